import PyProof.Rows.All
import Wide.All
import OpenK.AllK
import Wide.FinOn
import KE.DataEq
import HandS.ForMost
import HandS.ForExc
import HandS.Wide
import HandS.TupAny
import HandS.Deep
import HandS.IsInst
import HandS.Zip
import HandS.Rev
import HandS.HeadHook2
import HandS.Head0
import HandS.Head1
import HandS.Head2
import HandS.HeadEnd
import HandS.HeadHook1
import KE.KStateDown
import PySem.Challenge.RW_closehaul_k29_what_bearings_leave
set_option Elab.async false
set_option linter.all false
section
set_option maxRecDepth 100000
set_option maxHeartbeats 4000000
namespace DL
open PySem PySem.Spec PyProof.Rows L2
abbrev D := PyData
inductive R where
  | d (x : D)
  | l (ds : List D) (fr : Bool)
abbrev En := List (Option R)
structure Step (F H F' H' : Hp) : Prop where
  f : Same F F'
  h : Same H H'
  s : ∀ a, H a ≠ none → F a = none → F' a = none
section
variable {K : PySem.W.Frag} {F H F' H' F1 H1 F2 H2 B B' : Hp} {a p : Addr} {xs ys : List V} {ds es : List D}
theorem Step.refl : Step F H F H := ⟨Same.refl _, Same.refl _, fun _ _ h => h⟩
theorem ne_none_of {o : HO} (h : H a = some o) : H a ≠ none := fun z => by rw [z] at h; cases h
theorem some_of_ne (h : H a ≠ none) : ∃ o, H a = some o := by
  cases q : H a with
  | none => exact absurd q h
  | some o => exact ⟨o, rfl⟩
theorem Same.nn (e : Same H H') (h : H a ≠ none) : H' a ≠ none := by
  obtain ⟨o, q⟩ := some_of_ne h
  exact ne_none_of (e a o q)
theorem Step.trans (x : Step F H F1 H1) (y : Step F1 H1 F2 H2) : Step F H F2 H2 :=
  ⟨x.f.trans y.f, x.h.trans y.h, fun a h1 h2 => y.s a (Same.nn x.h h1) (x.s a h1 h2)⟩
theorem SqL.mono (e : Same H H') (h : SqL K H a xs) : SqL K H' a xs := Same.seq e h
theorem SqT.mono (e : Same H H') (h : SqT K H a xs) : SqT K H' a xs := by
  rcases h with (h | ⟨o, h⟩) | h
  · exact .inl (.inl (e _ _ h))
  · exact .inl (.inr ⟨o, e _ _ h⟩)
  · exact .inr h
mutual
inductive Dq (K : PySem.W.Frag) (H : Hp) : V → PyData → Prop
  | non : Dq K H .non .none
  | bl (b : Bool) : Dq K H (.bl b) (.bool b)
  | int (i : Int) : Dq K H (.int i) (.int i)
  | str (x : Str) : Dq K H (.str x) (.str x)
  | lst {a : Addr} {xs : List V} {ds : List PyData} : Rd H a (.lst xs) → DqAll K H xs ds → Dq K H (.ref a) (.list ds)
  | tup {a : Addr} {xs : List V} {ds : List PyData} : SqT K H a xs → DqAll K H xs ds → Dq K H (.ref a) (.tuple ds)
inductive DqAll (K : PySem.W.Frag) (H : Hp) : List V → List PyData → Prop
  | nil : DqAll K H [] []
  | cons {v : V} {vs : List V} {d : PyData} {ds : List PyData} : Dq K H v d → DqAll K H vs ds → DqAll K H (v :: vs) (d :: ds)
end
theorem Rd.mono {o : HO} (e : Same H H') (h : Rd H a o) : Rd H' a o := by
  rcases h with h | ⟨u, h⟩
  · exact .inl (e _ _ h)
  · exact .inr ⟨u, e _ _ h⟩
mutual
theorem Dq.mono (e : Same H H') : ∀ (d : D) (v : V), Dq K H v d → Dq K H' v d
  | .none, _, h => by cases h; exact .non
  | .bool b, _, h => by cases h; exact .bl b
  | .int i, _, h => by cases h; exact .int i
  | .str x, _, h => by cases h; exact .str x
  | .list ds, _, h => by
    cases h with
    | lst h1 h2 => exact .lst (Rd.mono e h1) (DqAll.mono e ds _ h2)
  | .tuple ds, _, h => by
    cases h with
    | tup h1 h2 => exact .tup (SqT.mono e h1) (DqAll.mono e ds _ h2)
  | .dict _, _, h => by cases h
theorem DqAll.mono (e : Same H H') : ∀ (ds : List D) (vs : List V), DqAll K H vs ds → DqAll K H' vs ds
  | [], _, h => by cases h; exact .nil
  | d :: ds, _, h => by
    cases h with
    | cons h1 h2 => exact .cons (Dq.mono e d _ h1) (DqAll.mono e ds _ h2)
end
mutual
theorem Dq.dp : ∀ (d : D) (v : V), Dq K H v d → Dp K H v d ∧ d.plain = true
  | .none, _, h => by cases h; exact ⟨.non, by simp [PyData.plain]⟩
  | .bool b, _, h => by cases h; exact ⟨.bl b, by simp [PyData.plain]⟩
  | .int i, _, h => by cases h; exact ⟨.int i, by simp [PyData.plain]⟩
  | .str x, _, h => by cases h; exact ⟨.str x, by simp [PyData.plain]⟩
  | .list ds, _, h => by
    cases h with
    | lst h1 h2 => exact ⟨.lst (.inl h1) (DqAll.dp ds _ h2).1, by simpa [PyData.plain] using (DqAll.dp ds _ h2).2⟩
  | .tuple ds, _, h => by
    cases h with
    | tup h1 h2 => exact ⟨.tup h1 (DqAll.dp ds _ h2).1, by simpa [PyData.plain] using (DqAll.dp ds _ h2).2⟩
  | .dict _, _, h => by cases h
theorem DqAll.dp : ∀ (ds : List D) (vs : List V), DqAll K H vs ds → DpAll K H vs ds ∧ PyData.plainAll ds = true
  | [], _, h => by cases h; exact ⟨.nil, by simp [PyData.plainAll]⟩
  | d :: ds, _, h => by
    cases h with
    | cons h1 h2 => exact ⟨.cons (Dq.dp d _ h1).1 (DqAll.dp ds _ h2).1, by simp [PyData.plainAll, (Dq.dp d _ h1).2, (DqAll.dp ds _ h2).2]⟩
end
theorem dp_mono {v : V} {d : D} (e : Same H H') (h : Dq K H v d) : Dq K H' v d := Dq.mono e d v h
theorem dpa_mono {vs : List V} {ds : List D} (e : Same H H') (h : DqAll K H vs ds) : DqAll K H' vs ds := DqAll.mono e ds vs h
theorem dpa_len : ∀ {ds : List D} {vs : List V}, DqAll K H vs ds → vs.length = ds.length
  | [], _, h => by cases h; rfl
  | d :: ds, _, h => by
    cases h with
    | cons h1 h2 => rw [List.length_cons, List.length_cons, dpa_len h2]
theorem dpa_get : ∀ {ds : List D} {vs : List V} {i : Nat} {d : D}, DqAll K H vs ds → ds[i]? = some d → ∃ v, vs[i]? = some v ∧ Dq K H v d
  | [], _, _, _, _, e => by simp at e
  | d :: ds, _, 0, _, h, e => by
    cases h with
    | cons h1 h2 => simp at e; subst e; exact ⟨_, rfl, h1⟩
  | d :: ds, _, i + 1, _, h, e => by
    cases h with
    | cons h1 h2 =>
      obtain ⟨v, q1, q2⟩ := dpa_get (i := i) h2 (by simpa using e)
      exact ⟨v, by simpa using q1, q2⟩
theorem dpa_get' : ∀ {ds : List D} {vs : List V} {i : Nat} {v : V}, DqAll K H vs ds → vs[i]? = some v → ∃ d, ds[i]? = some d ∧ Dq K H v d
  | [], _, _, _, h, e => by cases h; simp at e
  | d :: ds, _, 0, _, h, e => by
    cases h with
    | cons h1 h2 => simp at e; subst e; exact ⟨_, rfl, h1⟩
  | d :: ds, _, i + 1, _, h, e => by
    cases h with
    | cons h1 h2 =>
      obtain ⟨v, q1, q2⟩ := dpa_get' (i := i) h2 (by simpa using e)
      exact ⟨v, by simpa using q1, q2⟩
theorem dpa_app : ∀ {ds es : List D} {vs us : List V}, DqAll K H vs ds → DqAll K H us es → DqAll K H (vs ++ us) (ds ++ es)
  | [], _, _, _, h, g => by cases h; exact g
  | d :: ds, _, _, _, h, g => by
    cases h with
    | cons h1 h2 => exact .cons h1 (dpa_app h2 g)
theorem dpa_take : ∀ {ds : List D} {vs : List V} (n : Nat), DqAll K H vs ds → DqAll K H (vs.take n) (ds.take n)
  | _, _, 0, _ => by rw [List.take_zero, List.take_zero]; exact .nil
  | [], _, n + 1, h => by cases h; rw [List.take_nil, List.take_nil]; exact .nil
  | d :: ds, _, n + 1, h => by
    cases h with
    | cons h1 h2 => rw [List.take_succ_cons, List.take_succ_cons]; exact .cons h1 (dpa_take n h2)
theorem dpa_drop : ∀ {ds : List D} {vs : List V} (n : Nat), DqAll K H vs ds → DqAll K H (vs.drop n) (ds.drop n)
  | _, _, 0, h => h
  | [], _, n + 1, h => by cases h; rw [List.drop_nil, List.drop_nil]; exact .nil
  | d :: ds, _, n + 1, h => by
    cases h with
    | cons h1 h2 => exact dpa_drop n h2
theorem dpa_set : ∀ {ds : List D} {vs : List V} {d : D} {v : V} (n : Nat), Dq K H v d → DqAll K H vs ds → DqAll K H (vs.set n v) (ds.set n d)
  | [], _, _, _, n, _, h => by cases h; rw [List.set_nil, List.set_nil]; exact .nil
  | _ :: ds, _, _, _, 0, g, h => by
    cases h with
    | cons h1 h2 => exact .cons g h2
  | _ :: ds, _, _, _, n + 1, g, h => by
    cases h with
    | cons h1 h2 => exact .cons h1 (dpa_set n g h2)
theorem dpa_erase : ∀ {ds : List D} {vs : List V} (n : Nat), DqAll K H vs ds → DqAll K H (vs.eraseIdx n) (ds.eraseIdx n)
  | [], _, n, h => by cases h; rw [List.eraseIdx_nil, List.eraseIdx_nil]; exact .nil
  | _ :: ds, _, 0, h => by
    cases h with
    | cons h1 h2 => exact h2
  | _ :: ds, _, n + 1, h => by
    cases h with
    | cons h1 h2 => exact .cons h1 (dpa_erase n h2)
theorem dpa_rev {ds : List D} {vs : List V} (h : DqAll K H vs ds) : DqAll K H vs.reverse ds.reverse := by
  induction ds generalizing vs with
  | nil => cases h; exact .nil
  | cons d ds ih =>
    cases h with
    | cons h1 h2 =>
      rw [List.reverse_cons, List.reverse_cons]
      exact dpa_app (ih h2) (.cons h1 .nil)
theorem dpa_dropLast {ds : List D} {vs : List V} (h : DqAll K H vs ds) : DqAll K H vs.dropLast ds.dropLast := by
  rw [List.dropLast_eq_take, List.dropLast_eq_take, dpa_len h]
  exact dpa_take _ h
theorem dpa_ints : ∀ {ns : List Int} {xs : List V}, DqAll K H xs (ns.map PyData.int) → xs = ns.map V.int
  | [], xs, h => by cases h; rfl
  | n :: ns, xs, h => by
    cases h with
    | cons h1 h2 => cases h1; rw [dpa_ints h2]; rfl
theorem dpa_of_ints : ∀ (ns : List Int), DqAll K H (ns.map V.int) (ns.map PyData.int)
  | [] => .nil
  | n :: ns => .cons (.int n) (dpa_of_ints ns)
theorem dpa_bls : ∀ {ns : List Bool} {xs : List V}, DqAll K H xs (ns.map PyData.bool) → xs = ns.map V.bl
  | [], xs, h => by cases h; rfl
  | n :: ns, xs, h => by
    cases h with
    | cons h1 h2 => cases h1; rw [dpa_bls h2]; rfl
def RV (K : PySem.W.Frag) (B F H : Hp) : R → V → Prop
  | .d x, v => Dq K F v x
  | .l ds fr, v => ∃ a xs, v = .ref a ∧ H a = some (.lst xs) ∧ DqAll K F xs ds ∧ F a = none ∧ (fr = true → B a = none)
theorem RV.step {r : R} {v : V} (h : RV K B F H r v) (s : Step F H F' H') : RV K B F' H' r v := by
  cases r with
  | d x => exact dp_mono s.f h
  | l ds fr =>
    obtain ⟨a, xs, h1, h2, h3, h4, h5⟩ := h
    exact ⟨a, xs, h1, s.h _ _ h2, dpa_mono s.f h3, s.s a (ne_none_of h2) h4, h5⟩
theorem RV.base {r : R} {v : V} (h : RV K B F H r v) (s : Same B' B) : RV K B' F H r v := by
  cases r with
  | d x => exact h
  | l ds fr =>
    obtain ⟨a, xs, h1, h2, h3, h4, h5⟩ := h
    exact ⟨a, xs, h1, h2, h3, h4, fun z => Same.free s (h5 z)⟩
def look : R → D
  | .d x => x
  | .l ds _ => .list ds
theorem RV.look {r : R} {v : V} (h : RV K B F H r v) (fh : Same F H) : Dq K H v (DL.look r) := by
  cases r with
  | d x => exact dp_mono fh h
  | l ds fr =>
    obtain ⟨a, xs, h1, h2, h3, h4, h5⟩ := h
    subst h1
    exact .lst (.inl h2) (dpa_mono fh h3)
theorem same_upd {o : HO} (h : F a = none) : Same F (upd F a o) := fun b u e => by rw [upd_ne (ne_of_none e h)]; exact e
theorem upd_le {o : HO} (fh : Same F H) (h : H a = some o) : Same (upd F a o) H := fun b u e => by
  by_cases hb : b = a
  · subst hb; rw [upd_same] at e; cases e; exact h
  · rw [upd_ne hb] at e; exact fh b u e
theorem Step.new {o : HO} (fh : Same F H) (h : H p = none) : Step F H (upd F p o) (upd H p o) :=
  ⟨same_upd (Same.free fh h), same_upd h, fun a h1 h2 => by rw [upd_ne (fun z => by subst z; exact h1 h)]; exact h2⟩
theorem same_new {o : HO} (fh : Same F H) : Same (upd F p o) (upd H p o) := fun b u e => by
  by_cases hb : b = p
  · subst hb; rw [upd_same] at e ⊢; exact e
  · rw [upd_ne hb] at e ⊢; exact fh b u e
theorem Step.own {o : HO} (fh : Same F H) (h : H p = none) : Step F H F (upd H p o) :=
  ⟨Same.refl _, same_upd h, fun a h1 h2 => h2⟩
theorem same_own {o : HO} (fh : Same F H) (h : H p = none) : Same F (upd H p o) := fun b u e => by
  rw [upd_ne (ne_of_none (fh b u e) h)]; exact fh b u e
def frz : R → Option D
  | .d x => some x
  | .l ds true => some (.list ds)
  | .l _ false => none
theorem RV.frz {r : R} {v : V} {x : D} (h : RV K B F H r v) (fh : Same F H) (e : DL.frz r = some x) : ∃ F', Same F F' ∧ Same F' H ∧ Dq K F' v x ∧ ∀ a, B a ≠ none → F a = none → F' a = none := by
  cases r with
  | d y => cases e; exact ⟨F, Same.refl _, fh, h, fun _ _ z => z⟩
  | l ds fr =>
    cases fr with
    | false => cases e
    | true =>
      cases e
      obtain ⟨a, xs, h1, h2, h3, h4, h5⟩ := h
      subst h1
      refine ⟨upd F a (.lst xs), same_upd h4, upd_le fh h2, .lst (.inl upd_same) (dpa_mono (same_upd h4) h3), fun b hb hf => ?_⟩
      have ne : b ≠ a := fun z => by subst z; exact hb (h5 rfl)
      rw [upd_ne ne]; exact hf
end
structure SR (K : PySem.W.Frag) (F0 H0 F : Hp) (ρ : En) (σ : L2.St) (H : Hp) : Prop where
  fh : Same F H
  ent : Step F0 H0 F H
  len : σ.length = ρ.length
  val : ∀ (i : Nat) (x : D), ρ[i]? = some (some (R.d x)) → ∃ v, σ[i]? = some (some v) ∧ Dq K F v x
  own : ∀ (i : Nat) (ds : List D) (b : Bool), ρ[i]? = some (some (R.l ds b)) → ∃ a xs, σ[i]? = some (some (.ref a)) ∧ H a = some (.lst xs) ∧ DqAll K F xs ds ∧ F a = none ∧ H0 a = none
  sep : ∀ (i j : Nat) (ds es : List D) (b c : Bool) (a : Addr), i ≠ j → ρ[i]? = some (some (R.l ds b)) → ρ[j]? = some (some (R.l es c)) → σ[i]? = some (some (.ref a)) → σ[j]? ≠ some (some (.ref a))
section
variable {K : PySem.W.Frag} {F0 H0 F H F' H' : Hp} {ρ : En} {σ : L2.St}
theorem SR.step (x : SR K F0 H0 F ρ σ H) (s : Step F H F' H') (fh : Same F' H') : SR K F0 H0 F' ρ σ H' where
  fh := fh
  ent := x.ent.trans s
  len := x.len
  val := fun i y e => let ⟨v, h1, h2⟩ := x.val i y e; ⟨v, h1, dp_mono s.f h2⟩
  own := fun i ds b e => let ⟨a, xs, h1, h2, h3, h4, h5⟩ := x.own i ds b e; ⟨a, xs, h1, s.h _ _ h2, dpa_mono s.f h3, s.s a (ne_none_of h2) h4, h5⟩
  sep := x.sep
theorem get_set_some {α : Type} {l : List (Option α)} {i j : Nat} {v w : Option α} (h : (l.set i v)[j]? = some w) : (i = j ∧ v = w) ∨ (i ≠ j ∧ l[j]? = some w) := by
  by_cases e : i = j
  · subst e
    rw [List.getElem?_set] at h
    rw [if_pos rfl] at h
    split at h
    · exact .inl ⟨rfl, Option.some.inj h⟩
    · cases h
  · rw [List.getElem?_set_ne e] at h
    exact .inr ⟨e, h⟩
theorem set_get {α : Type} {l : List (Option α)} {i : Nat} {v : Option α} (h : i < l.length) : (l.set i v)[i]? = some v := by
  rw [List.getElem?_set, if_pos rfl, if_pos h]
theorem lt_of_get {α : Type} {l : List (Option α)} {i : Nat} {v : Option α} (h : l[i]? = some v) : i < l.length := (List.getElem?_eq_some_iff.mp h).1
theorem lt_of_set {α : Type} {l : List (Option α)} {i : Nat} {v w : Option α} (h : (l.set i v)[i]? = some w) : i < l.length := by
  have := (List.getElem?_eq_some_iff.mp h).1
  simpa using this
theorem SR.setD (x : SR K F0 H0 F ρ σ H) {v : V} {d : D} (h : Dq K F v d) (i : Nat) : SR K F0 H0 F (ρ.set i (some (.d d))) (σ.set i (some v)) H where
  fh := x.fh
  ent := x.ent
  len := by rw [List.length_set, List.length_set]; exact x.len
  val := fun j y e => by
    rcases get_set_some e with ⟨q1, q2⟩ | ⟨q1, q2⟩
    · subst q1
      cases q2
      exact ⟨v, set_get (by rw [x.len]; exact lt_of_set e), h⟩
    · rw [List.getElem?_set_ne q1]
      exact x.val j y q2
  own := fun j ds b e => by
    rcases get_set_some e with ⟨q1, q2⟩ | ⟨q1, q2⟩
    · cases q2
    · rw [List.getElem?_set_ne q1]
      exact x.own j ds b q2
  sep := fun j k ds es b c a ne e1 e2 h1 => by
    rcases get_set_some e1 with ⟨q1, q2⟩ | ⟨q1, q2⟩
    · cases q2
    · rcases get_set_some e2 with ⟨q3, q4⟩ | ⟨q3, q4⟩
      · cases q4
      · rw [List.getElem?_set_ne q1] at h1
        rw [List.getElem?_set_ne q3]
        exact x.sep j k ds es b c a ne q2 q4 h1
theorem SR.setL (x : SR K F0 H0 F ρ σ H) {a : Addr} {xs : List V} {ds : List D} (h : H a = some (.lst xs)) (hd : DqAll K F xs ds) (hf : F a = none) (h0 : H0 a = none)
    (new : ∀ (j : Nat) (es : List D) (c : Bool), ρ[j]? = some (some (R.l es c)) → σ[j]? ≠ some (some (.ref a))) (i : Nat) : SR K F0 H0 F (ρ.set i (some (.l ds true))) (σ.set i (some (.ref a))) H where
  fh := x.fh
  ent := x.ent
  len := by rw [List.length_set, List.length_set]; exact x.len
  val := fun j y e => by
    rcases get_set_some e with ⟨q1, q2⟩ | ⟨q1, q2⟩
    · cases q2
    · rw [List.getElem?_set_ne q1]
      exact x.val j y q2
  own := fun j es b e => by
    rcases get_set_some e with ⟨q1, q2⟩ | ⟨q1, q2⟩
    · subst q1
      cases q2
      exact ⟨a, xs, set_get (by rw [x.len]; exact lt_of_set e), h, hd, hf, h0⟩
    · rw [List.getElem?_set_ne q1]
      exact x.own j es b q2
  sep := fun j k es fs b c a' ne e1 e2 h1 => by
    rcases get_set_some e1 with ⟨q1, q2⟩ | ⟨q1, q2⟩
    · rcases get_set_some e2 with ⟨q3, q4⟩ | ⟨q3, q4⟩
      · exact absurd (q1.symm.trans q3) ne
      · subst q1
        rw [set_get (by rw [x.len]; exact lt_of_set e1)] at h1
        cases h1
        rw [List.getElem?_set_ne q3]
        exact new k fs c q4
    · rcases get_set_some e2 with ⟨q3, q4⟩ | ⟨q3, q4⟩
      · subst q3
        rw [set_get (by rw [x.len]; exact lt_of_set e2)]
        intro z
        cases z
        rw [List.getElem?_set_ne q1] at h1
        exact new j es b q2 h1
      · rw [List.getElem?_set_ne q1] at h1
        rw [List.getElem?_set_ne q3]
        exact x.sep j k es fs b c a' ne q2 q4 h1
theorem SR.unset (x : SR K F0 H0 F ρ σ H) (i : Nat) : SR K F0 H0 F (ρ.set i none) (σ.set i none) H where
  fh := x.fh
  ent := x.ent
  len := by rw [List.length_set, List.length_set]; exact x.len
  val := fun j y e => by
    rcases get_set_some e with ⟨q1, q2⟩ | ⟨q1, q2⟩
    · cases q2
    · rw [List.getElem?_set_ne q1]
      exact x.val j y q2
  own := fun j ds b e => by
    rcases get_set_some e with ⟨q1, q2⟩ | ⟨q1, q2⟩
    · cases q2
    · rw [List.getElem?_set_ne q1]
      exact x.own j ds b q2
  sep := fun j k ds es b c a ne e1 e2 h1 => by
    rcases get_set_some e1 with ⟨q1, q2⟩ | ⟨q1, q2⟩
    · cases q2
    · rcases get_set_some e2 with ⟨q3, q4⟩ | ⟨q3, q4⟩
      · cases q4
      · rw [List.getElem?_set_ne q1] at h1
        rw [List.getElem?_set_ne q3]
        exact x.sep j k ds es b c a ne q2 q4 h1
def wip (ρ : En) : List Nat → En
  | [] => ρ
  | v :: vs => (wip ρ vs).set v none
theorem SR.wip (x : SR K F0 H0 F ρ σ H) : ∀ vs : List Nat, SR K F0 H0 F (DL.wip ρ vs) (wipe σ vs) H
  | [] => x
  | v :: vs => by
    unfold wipe DL.wip
    exact (SR.wip x vs).unset v
theorem SR.put (x : SR K F0 H0 F ρ σ H) {i : Nat} {ds es : List D} {b : Bool} {a : Addr} {ys : List V} (e : ρ[i]? = some (some (R.l ds b))) (h : σ[i]? = some (some (.ref a))) (hd : DqAll K F ys es) :
    SR K F0 H0 F (ρ.set i (some (.l es true))) σ (upd H a (.lst ys)) := by
  obtain ⟨a', xs, g1, g2, g3, g4, g5⟩ := x.own i ds b e
  rw [h] at g1
  cases g1
  have fu : Same F (upd H a (.lst ys)) := fun c u q => by rw [upd_ne (ne_of_none q g4)]; exact x.fh c u q
  refine ⟨fu, ⟨x.ent.f, fun c u q => ?_, x.ent.s⟩, by rw [List.length_set]; exact x.len, fun j y q => ?_, fun j fs c q => ?_, fun j k fs gs c c' a' ne q1 q2 q3 => ?_⟩
  · rw [upd_ne (ne_of_none q g5)]; exact x.ent.h c u q
  · rcases get_set_some q with ⟨q1, q2⟩ | ⟨q1, q2⟩
    · cases q2
    · exact x.val j y q2
  · rcases get_set_some q with ⟨q1, q2⟩ | ⟨q1, q2⟩
    · subst q1
      cases q2
      exact ⟨a, ys, h, upd_same, hd, g4, g5⟩
    · obtain ⟨a2, xs2, k1, k2, k3, k4, k5⟩ := x.own j fs c q2
      refine ⟨a2, xs2, k1, ?_, k3, k4, k5⟩
      rw [upd_ne]
      · exact k2
      · intro z
        subst z
        exact x.sep i j ds fs b c a2 q1 e q2 h k1
  · rcases get_set_some q1 with ⟨p1, p2⟩ | ⟨p1, p2⟩
    · rcases get_set_some q2 with ⟨p3, p4⟩ | ⟨p3, p4⟩
      · exact absurd (p1.symm.trans p3) ne
      · subst p1
        exact x.sep i k ds gs b c' a' ne e p4 q3
    · rcases get_set_some q2 with ⟨p3, p4⟩ | ⟨p3, p4⟩
      · subst p3
        exact x.sep j i fs ds c b a' ne p2 e q3
      · exact x.sep j k fs gs c c' a' ne p2 p4 q3
theorem SR.frz (x : SR K F0 H0 F ρ σ H) {i : Nat} {ds : List D} {b : Bool} (e : ρ[i]? = some (some (R.l ds b))) :
    ∃ F', SR K F0 H0 F' (ρ.set i (some (.d (.list ds)))) σ H ∧ Same F F' := by
  obtain ⟨a, xs, g1, g2, g3, g4, g5⟩ := x.own i ds b e
  have sf : Same F (upd F a (.lst xs)) := same_upd g4
  refine ⟨upd F a (.lst xs), ⟨upd_le x.fh g2, ⟨x.ent.f.trans sf, x.ent.h, fun c h1 h2 => ?_⟩, by rw [List.length_set]; exact x.len, fun j y q => ?_, fun j fs c q => ?_, fun j k fs gs c c' a' ne q1 q2 q3 => ?_⟩, sf⟩
  · have ne : c ≠ a := fun z => by subst z; exact h1 g5
    rw [upd_ne ne]; exact x.ent.s c h1 h2
  · rcases get_set_some q with ⟨q1, q2⟩ | ⟨q1, q2⟩
    · subst q1
      cases q2
      exact ⟨.ref a, g1, .lst (.inl upd_same) (dpa_mono sf g3)⟩
    · obtain ⟨v, k1, k2⟩ := x.val j y q2
      exact ⟨v, k1, dp_mono sf k2⟩
  · rcases get_set_some q with ⟨q1, q2⟩ | ⟨q1, q2⟩
    · cases q2
    · obtain ⟨a2, xs2, k1, k2, k3, k4, k5⟩ := x.own j fs c q2
      refine ⟨a2, xs2, k1, k2, dpa_mono sf k3, ?_, k5⟩
      have ne : a2 ≠ a := fun z => by
        subst z
        exact x.sep i j ds fs b c a2 q1 e q2 g1 k1
      rw [upd_ne ne]; exact k4
  · rcases get_set_some q1 with ⟨p1, p2⟩ | ⟨p1, p2⟩
    · cases p2
    · rcases get_set_some q2 with ⟨p3, p4⟩ | ⟨p3, p4⟩
      · cases p4
      · exact x.sep j k fs gs c c' a' ne p2 p4 q3
end
end DL
end
section
set_option maxRecDepth 100000
set_option maxHeartbeats 4000000
namespace DL
open PySem PySem.Spec PyProof.Rows L2
abbrev WR := (R → Prop) → Prop
def MulOk (i j : Int) : Prop := IntMulOk i j
def DivOk (i j : Int) : Prop := Builtin.divisionGoesByPylong i j = false
def wAdd (r s : R) (Q : R → Prop) : Prop :=
  match r, s with
  | .d (.int i), .d (.int j) => Q (.d (.int (i + j)))
  | .d (.str x), .d (.str y) => x.length + y.length ≤ sizeLine ∧ Q (.d (.str (x ++ y)))
  | .d (.tuple xs), .d (.tuple ys) => xs.length + ys.length ≤ sizeLine ∧ Q (.d (.tuple (xs ++ ys)))
  | r, s => match look r, look s with
    | .list xs, .list ys => xs.length + ys.length ≤ sizeLine ∧ Q (.l (xs ++ ys) true)
    | _, _ => False
def wSub (r s : R) (Q : R → Prop) : Prop :=
  match r, s with
  | .d (.int i), .d (.int j) => Q (.d (.int (i - j)))
  | _, _ => False
structure wMulS (i j : Int) (p : Prop) : Prop where
  ok : MulOk i j
  p : p
def wMul (r s : R) (Q : R → Prop) : Prop :=
  match r, s with
  | .d (.int i), .d (.int j) => wMulS i j (Q (.d (.int (i * j))))
  | r, .d (.int k) => (match look r with
    | .list xs => -(2 ^ 63) ≤ k ∧ k < 2 ^ 63 ∧ xs.length * k.toNat ≤ sizeLine ∧ Q (.l (List.replicate k.toNat xs).flatten true)
    | _ => False)
  | _, _ => False
def wDiv (r s : R) (Q : R → Prop) : Prop :=
  match r, s with
  | .d (.int i), .d (.int j) => j ≠ 0 ∧ DivOk i j ∧ ∀ q, q = i.fdiv j → (0 < j → q = i / j) → Q (.d (.int q))
  | _, _ => False
def wMod (r s : R) (Q : R → Prop) : Prop :=
  match r, s with
  | .d (.int i), .d (.int j) => j ≠ 0 ∧ ∀ q, q = i.fmod j → (0 < j → q = i % j) → Q (.d (.int q))
  | _, _ => False
def wPow (r s : R) (Q : R → Prop) : Prop :=
  match r, s with
  | .d (.int i), .d (.int j) => CPow i j ∧ Q (.d (.int (i ^ j.toNat)))
  | _, _ => False
def wBin (op : Operator) (r s : R) (Q : R → Prop) : Prop :=
  match op with
  | .Add => wAdd r s Q
  | .Sub => wSub r s Q
  | .Mult => wMul r s Q
  | .FloorDiv => wDiv r s Q
  | .Mod => wMod r s Q
  | .Pow => wPow r s Q
  | _ => False
def wNeg (r : R) (Q : R → Prop) : Prop :=
  match r with
  | .d (.int i) => Q (.d (.int (-i)))
  | _ => False
def wTru (r : R) (Q : Bool → Prop) : Prop :=
  match r with
  | .d (.bool b) => Q b
  | _ => False
def isNone (d : D) : Bool := match d with
  | .none => true
  | _ => false
def Flat (x y : D) : Prop := min x.depth y.depth ≤ 100
structure wEq0 (x y : D) (Q : R → Prop) : Prop where
  flat : Flat x y
  q : Q (.d (.bool (PyData.eqv x y)))
structure wNe0 (x y : D) (Q : R → Prop) : Prop where
  flat : Flat x y
  q : Q (.d (.bool (!PyData.eqv x y)))
def wEqD (x y : D) (Q : R → Prop) : Prop := match x, y with
  | .int i, .int j => Q (.d (.bool (decide (i = j))))
  | .str i, .str j => Q (.d (.bool (decide (i = j))))
  | .bool i, .bool j => Q (.d (.bool (decide (i = j))))
  | x, y => wEq0 x y Q
def wNeD (x y : D) (Q : R → Prop) : Prop := match x, y with
  | .int i, .int j => Q (.d (.bool (!decide (i = j))))
  | .str i, .str j => Q (.d (.bool (!decide (i = j))))
  | .bool i, .bool j => Q (.d (.bool (!decide (i = j))))
  | x, y => wNe0 x y Q
theorem eqv_i (i j : Int) : PyData.eqv (.int i) (.int j) = decide (i = j) := by unfold PyData.eqv; rw [Bool.eq_iff_iff]; simp
theorem eqv_s (i j : Str) : PyData.eqv (.str i) (.str j) = decide (i = j) := by unfold PyData.eqv; rw [Bool.eq_iff_iff]; simp
theorem eqv_b (i j : Bool) : PyData.eqv (.bool i) (.bool j) = decide (i = j) := by unfold PyData.eqv; rw [Bool.eq_iff_iff]; cases i <;> cases j <;> simp
theorem wEqD_ok {x y : D} {Q : R → Prop} (h : wEqD x y Q) : wEq0 x y Q := by
  unfold wEqD at h
  split at h
  · exact ⟨Nat.zero_le _, by rw [eqv_i]; exact h⟩
  · exact ⟨Nat.zero_le _, by rw [eqv_s]; exact h⟩
  · exact ⟨Nat.zero_le _, by rw [eqv_b]; exact h⟩
  · exact h
theorem wNeD_ok {x y : D} {Q : R → Prop} (h : wNeD x y Q) : wNe0 x y Q := by
  unfold wNeD at h
  split at h
  · exact ⟨Nat.zero_le _, by rw [eqv_i]; exact h⟩
  · exact ⟨Nat.zero_le _, by rw [eqv_s]; exact h⟩
  · exact ⟨Nat.zero_le _, by rw [eqv_b]; exact h⟩
  · exact h
def wEq (r s : R) (Q : R → Prop) : Prop := wEqD (look r) (look s) Q
def wNe (r s : R) (Q : R → Prop) : Prop := wNeD (look r) (look s) Q
def wOrd (f : Int → Int → Bool) (r s : R) (Q : R → Prop) : Prop :=
  match r, s with
  | .d (.int i), .d (.int j) => Q (.d (.bool (f i j)))
  | _, _ => False
def sIn (x y : Str) : Bool := !(Builtin.Str.occurrences y x 0 y.length 1).isEmpty
def wIn (neg : Bool) (r s : R) (Q : R → Prop) : Prop :=
  match look s with
  | .list ds => min (PyData.depthAll ds) (look r).depth ≤ 100 ∧ Q (.d (.bool (neg != ds.any fun z => PyData.eqv z (look r))))
  | .tuple ds => min (PyData.depthAll ds) (look r).depth ≤ 100 ∧ Q (.d (.bool (neg != ds.any fun z => PyData.eqv z (look r))))
  | .str y => (match look r with
    | .str x => Q (.d (.bool (neg != sIn x y)))
    | _ => False)
  | _ => False
def wCmp (op : CmpOp) (r s : R) (Q : R → Prop) : Prop :=
  match op with
  | .Eq => wEq r s Q
  | .NotEq => wNe r s Q
  | .Lt => wOrd (fun i j => decide (i < j)) r s Q
  | .LtE => wOrd (fun i j => decide (i ≤ j)) r s Q
  | .Gt => wOrd (fun i j => decide (j < i)) r s Q
  | .GtE => wOrd (fun i j => decide (j ≤ i)) r s Q
  | .In => wIn false r s Q
  | .NotIn => wIn true r s Q
  | _ => False
def wIx (r s : R) (Q : R → Prop) : Prop :=
  match look r, s with
  | .list ds, .d (.int i) => (match atI ds i with
    | some d => Q (.d d)
    | none => False)
  | .tuple ds, .d (.int i) => (match atI ds i with
    | some d => Q (.d d)
    | none => False)
  | .str x, .d (.int i) => x.length ≤ sizeLine ∧ (match atI x.cps.toList i with
    | some c => Q (.d (.str ⟨#[c]⟩))
    | none => False)
  | _, _ => False
def cutD (ds : List D) (lo hi : Option Int) : List D := (ds.drop (HT.sIx ds.length 0 lo)).take (HT.sIx ds.length ds.length hi - HT.sIx ds.length 0 lo)
def wSl (r : R) (lo hi : Option Int) (Q : R → Prop) : Prop :=
  match look r with
  | .list ds => Q (.l (cutD ds lo hi) true)
  | .tuple ds => Q (.d (.tuple (cutD ds lo hi)))
  | _ => False
def frzP (r : R) (k : D → Prop) : Prop := match frz r with
  | some x => k x
  | none => False
def wArgs : List R → (List D → Prop) → Prop
  | [], k => k []
  | r :: rs, k => frzP r fun x => wArgs rs fun xs => k (x :: xs)
section
variable {X : Cx} {K : PySem.W.Frag} {F H B : Hp}
def rB (K : PySem.W.Frag) (w : R → R → (R → Prop) → Prop) : R2 := fun x y H Q => ∃ (F B : Hp) (r s : R) (P : R → Prop), Same F H ∧ RV K B F H r x ∧ RV K B F H s y ∧ w r s P ∧
  ∀ t v F' H', P t → Step F H F' H' → Same F' H' → RV K H F' H' t v → Q v H'
def rU1 (K : PySem.W.Frag) (w : R → (R → Prop) → Prop) : V → Hp → VK → Prop := fun x H Q => ∃ (F B : Hp) (r : R) (P : R → Prop), Same F H ∧ RV K B F H r x ∧ w r P ∧
  ∀ t v F' H', P t → Step F H F' H' → Same F' H' → RV K H F' H' t v → Q v H'
theorem rv_look {r : R} {x : V} {d : D} (fh : Same F H) (h : RV K B F H r x) (e : look r = d) : Dq K H x d := e ▸ h.look fh
theorem rv_list {r : R} {x : V} {ds : List D} (fh : Same F H) (h : RV K B F H r x) (e : look r = .list ds) : ∃ a xs, x = .ref a ∧ Rd H a (.lst xs) ∧ DqAll K F xs ds := by
  cases r with
  | d y =>
    cases e
    cases h with
    | lst h1 h2 => exact ⟨_, _, rfl, Rd.mono fh h1, h2⟩
  | l es fr =>
    cases e
    obtain ⟨a, xs, h1, h2, h3, h4, h5⟩ := h
    exact ⟨a, xs, h1, .inl h2, h3⟩
theorem rv_tup {r : R} {x : V} {ds : List D} (h : RV K B F H r x) (e : look r = .tuple ds) : ∃ a xs, x = .ref a ∧ SqT K F a xs ∧ DqAll K F xs ds := by
  cases r with
  | d y =>
    cases e
    cases h with
    | tup h1 h2 => exact ⟨_, _, rfl, h1, h2⟩
  | l es fr => cases e
theorem rv_str {r : R} {x : V} {z : Str} (h : RV K B F H r x) (e : look r = .str z) : x = .str z := by
  cases r with
  | d y =>
    cases e
    cases h
    rfl
  | l es fr => cases e
theorem rv_int {x : V} {i : Int} (h : RV K B F H (.d (.int i)) x) : x = .int i := by
  cases (show Dq K F x (.int i) from h)
  rfl
theorem rv_bool {x : V} {i : Bool} (h : RV K B F H (.d (.bool i)) x) : x = .bl i := by
  cases (show Dq K F x (.bool i) from h)
  rfl
theorem Inv.rlist {pins : List (Addr × Obj)} {σ : L2.St} {s : Shared} {a : Addr} {xs : List V} (I : Inv X pins σ H s) (h : Rd H a (.lst xs)) :
    xs.length ≤ sizeLine ∧ ∃ (its : List Value) (n : Nat), Vals xs its ∧ s.heap.get? a = some { cls := .type "list", data := .seq its.toArray n } := by
  obtain ⟨z, its, n, r, e⟩ := h.ok I.hok
  exact ⟨z, its, n, r, e⟩
theorem rv_new {p : Addr} {xs : List V} {ds : List D} (fh : Same F H) (hp : H p = none) (h : DqAll K F xs ds) : RV K H F (upd H p (.lst xs)) (.l ds true) (.ref p) :=
  ⟨p, xs, rfl, upd_same, h, Same.free fh hp, fun _ => hp⟩
theorem op_addD : OpR X (binaryOp .Add) (rB X.K wAdd) := by
  intro pins s σ H x y v u Q I rx ry h
  obtain ⟨F, B, r, t, P, fh, vr, vt, w, post⟩ := h
  unfold wAdd at w
  split at w
  · have e1 := rv_int vr
    have e2 := rv_int vt
    subst e1 e2
    exact op_add pins s σ H _ _ v u Q I rx ry ⟨_, _, rfl, rfl, post _ _ F H w Step.refl fh (Dq.int _)⟩
  · have e1 := rv_str vr rfl
    have e2 := rv_str vt rfl
    subst e1 e2
    exact op_add_str pins s σ H _ _ v u Q I rx ry ⟨_, _, rfl, rfl, w.1, post _ _ F H w.2 Step.refl fh (Dq.str _)⟩
  · rename_i ds es
    obtain ⟨a, xs, e1, h1, h2⟩ := rv_tup vr rfl
    obtain ⟨b, ys, e2, g1, g2⟩ := rv_tup vt rfl
    subst e1 e2
    have l1 := dpa_len h2
    have l2 := dpa_len g2
    refine op_catA pins s σ H _ _ v u Q I rx ry ⟨a, b, xs, ys, rfl, rfl, SqT.mono fh h1, SqT.mono fh g1, by omega, fun z => ?_, fun z z2 => ?_, fun z z2 p hp => ?_⟩
    · subst z
      cases h2
      exact post _ _ F H w.2 Step.refl fh (Dq.tup g1 g2)
    · subst z2
      cases g2
      refine post _ _ F H w.2 Step.refl fh ?_
      rw [List.append_nil]
      exact Dq.tup h1 h2
    · refine post _ _ _ _ w.2 (Step.new fh hp) (same_new fh) ?_
      exact Dq.tup (.inl (.inl upd_same)) (dpa_mono (same_upd (Same.free fh hp)) (dpa_app h2 g2))
  · split at w
    · rename_i ds es e1 e2
      obtain ⟨a, xs, e1, h1, h2⟩ := rv_list fh vr e1
      obtain ⟨b, ys, e2, g1, g2⟩ := rv_list fh vt e2
      subst e1 e2
      have l1 := dpa_len h2
      have l2 := dpa_len g2
      cases rx
      cases ry
      obtain ⟨z, its, n, r, e⟩ := Inv.rlist I h1
      obtain ⟨z2, its2, n2, r2, e2⟩ := Inv.rlist I g1
      have k1 := r.length
      have k2 := r2.length
      refine PySem.P.add_list e e2 ?_ (by rw [List.size_toArray, List.size_toArray]; omega)
      have ea : its.toArray ++ its2.toArray = (its ++ its2).toArray := by simp
      rw [ea]
      refine ⟨.ref _, _, I.lnew (t' := s.toks) (r.append r2) (by rw [List.length_append]; omega), rfl, ?_⟩
      exact post _ _ F _ w.2 (Step.own fh I.fresh) (same_own fh I.fresh) (rv_new fh I.fresh (dpa_app h2 g2))
    · exact w.elim
theorem op_subD : OpR X (binaryOp .Sub) (rB X.K wSub) := by
  intro pins s σ H x y v u Q I rx ry h
  obtain ⟨F, B, r, t, P, fh, vr, vt, w, post⟩ := h
  unfold wSub at w
  split at w
  · have e1 := rv_int vr
    have e2 := rv_int vt
    subst e1 e2
    exact op_sub pins s σ H _ _ v u Q I rx ry ⟨_, _, rfl, rfl, post _ _ F H w Step.refl fh (Dq.int _)⟩
  · exact w.elim
theorem op_mulD : OpR X (binaryOp .Mult) (rB X.K wMul) := by
  intro pins s σ H x y v u Q I rx ry h
  obtain ⟨F, B, r, t, P, fh, vr, vt, w, post⟩ := h
  unfold wMul at w
  split at w
  · have e1 := rv_int vr
    have e2 := rv_int vt
    subst e1 e2
    obtain ⟨t1, rfl⟩ := rx
    obtain ⟨t2, rfl⟩ := ry
    exact mul_int ⟨.int _, H, I.tok _, ⟨_, rfl⟩, post _ _ F H w.2 Step.refl fh (Dq.int _)⟩ w.1
  · rename_i k hne
    split at w
    · rename_i ds e1
      obtain ⟨a, xs, e1, h1, h2⟩ := rv_list fh vr e1
      have e2 := rv_int vt
      subst e1 e2
      obtain ⟨w1, w2, w3, w4⟩ := w
      have l1 := dpa_len h2
      cases rx
      obtain ⟨t2, rfl⟩ := ry
      obtain ⟨z, its, n, r, e⟩ := Inv.rlist I h1
      have hl := r.length
      have hlen : its.toArray.size * k.toNat ≤ sizeLine := by rw [List.size_toArray, ← hl, l1]; exact w3
      have hcap : ¬ its.toArray.size * k.toNat > (2 ^ 63 - 1) / 8 := by
        have : (sizeLine : Nat) ≤ (2 ^ 63 - 1) / 8 := by decide
        omega
      have hfit : ¬ (!Builtin.List.listFitsIndex k) = true := by
        rw [fitsIndex_both w1 w2]
        exact Bool.false_ne_true
      have hlong : ¬ Builtin.List.listTooLong (its.toArray.size * k.toNat) = true := by
        rw [notLongL hlen]
        exact Bool.false_ne_true
      have hnew : List.foldl (fun x1 x2 => x1 ++ x2) #[] (List.replicate (if its.toArray.isEmpty = true then 0 else k.toNat) its.toArray) = (List.replicate k.toNat its).flatten.toArray := by
        have f0 : ∀ m : Nat, List.foldl (fun x1 x2 => x1 ++ x2) #[] (List.replicate m its.toArray) = (List.replicate m its).flatten.toArray := fun m => by
          have := foldl_rep its m []
          rw [List.nil_append] at this
          exact this
        rw [f0]
        cases its with
        | nil => simp
        | cons a r' => rw [if_neg (by simp)]
      have dr : ∀ m : Nat, DqAll X.K F (List.replicate m xs).flatten (List.replicate m ds).flatten := fun m => by
        induction m with
        | zero => exact .nil
        | succ m ih =>
          rw [List.replicate_succ, List.replicate_succ, List.flatten_cons, List.flatten_cons]
          exact dpa_app h2 ih
      refine wpAny_binaryOp_repeat_ref (T := "list") (U := "int") (by decide) ⟨_, e, rfl⟩ (fun s' => typeIs_int s' k t2) noFill_list_mul PySem.F.fills_int_mul PySem.F.slot_int_rmul repeat_list PySem.F.slot_int_index.lookup
        (call_meets PySem.F.slot_int_rmul (typeIs_int s k t2) PySem.F.entry_int_rmul (PySem.F.args_int_rmul_2 _ _) (int___rmul___int_list k t2 a its.toArray n)
          ⟨e, rfl, ⟨_, e, rfl⟩, call_meets PySem.F.slot_list_mul ⟨_, e, rfl⟩ PySem.F.entry_list_mul (PySem.F.args_list_mul_2 _ _) (AutoListH.list___mul___list_int_3 a its.toArray n k t2 hfit hcap hlong) ⟨e, ?_⟩⟩)
      rw [hnew]
      refine ⟨.ref _, _, I.lnew (t' := s.toks) (r.rep k.toNat) (by rw [PyProof.Rows.lm_len_rep_flat, Nat.mul_comm, l1]; exact w3), rfl, ?_⟩
      exact post _ _ F _ w4 (Step.own fh I.fresh) (same_own fh I.fresh) (rv_new fh I.fresh (dr _))
    · exact w.elim
  · exact w.elim
theorem op_divD : OpR X (binaryOp .FloorDiv) (rB X.K wDiv) := by
  intro pins s σ H x y v u Q I rx ry h
  obtain ⟨F, B, r, t, P, fh, vr, vt, w, post⟩ := h
  unfold wDiv at w
  split at w
  · have e1 := rv_int vr
    have e2 := rv_int vt
    subst e1 e2
    obtain ⟨t1, rfl⟩ := rx
    obtain ⟨t2, rfl⟩ := ry
    exact floordiv_int w.1 ⟨.int _, H, I.tok _, ⟨_, rfl⟩, post _ _ F H (w.2.2 _ rfl fun h => Int.fdiv_eq_ediv_of_nonneg _ (Int.le_of_lt h)) Step.refl fh (Dq.int _)⟩ (.inl w.2.1)
  · exact w.elim
theorem op_modD : OpR X (binaryOp .Mod) (rB X.K wMod) := by
  intro pins s σ H x y v u Q I rx ry h
  obtain ⟨F, B, r, t, P, fh, vr, vt, w, post⟩ := h
  unfold wMod at w
  split at w
  · have e1 := rv_int vr
    have e2 := rv_int vt
    subst e1 e2
    exact op_modN pins s σ H _ _ v u Q I rx ry ⟨_, _, rfl, rfl, w.1, post _ _ F H (w.2 _ rfl fun h => Int.fmod_eq_emod_of_nonneg _ (Int.le_of_lt h)) Step.refl fh (Dq.int _)⟩
  · exact w.elim
theorem op_powD : OpR X (binaryOp .Pow) (rB X.K wPow) := by
  intro pins s σ H x y v u Q I rx ry h
  obtain ⟨F, B, r, t, P, fh, vr, vt, w, post⟩ := h
  unfold wPow at w
  split at w
  · have e1 := rv_int vr
    have e2 := rv_int vt
    subst e1 e2
    exact op_pow pins s σ H _ _ v u Q I rx ry ⟨_, _, rfl, rfl, w.1, post _ _ F H w.2 Step.refl fh (Dq.int _)⟩
  · exact w.elim
theorem op_binD (op : Operator) : OpR X (binaryOp op) (rB X.K (wBin op)) := by
  cases op with
  | Add => exact op_addD
  | Sub => exact op_subD
  | Mult => exact op_mulD
  | FloorDiv => exact op_divD
  | Mod => exact op_modD
  | Pow => exact op_powD
  | _ => intro pins s σ H x y v u Q I rx ry h; obtain ⟨F, B, r, t, P, fh, vr, vt, w, post⟩ := h; exact False.elim w
theorem un_negD : UnR X (unaryOp .USub) (rU1 X.K wNeg) := by
  intro pins s σ H x v Q I rx h
  obtain ⟨F, B, r, P, fh, vr, w, post⟩ := h
  unfold wNeg at w
  split at w
  · have e1 := rv_int vr
    subst e1
    exact un_neg pins s σ H _ v Q I rx ⟨_, rfl, post _ _ F H w Step.refl fh (Dq.int _)⟩
  · exact w.elim
theorem rv_reads {pins : List (Addr × Obj)} {σ : L2.St} {s : Shared} {r : R} {x : V} {v : Value} (I : Inv X pins σ H s) (fh : Same F H) (h : RV X.K B F H r x) (rx : RelV x v) : (∃ as, Reads s.heap v (look r) as) ∧ (look r).plain = true := by
  have q := Dq.dp _ _ (h.look fh)
  exact ⟨Dp.reads I _ x v q.1 rx, q.2⟩
theorem op_ordD {op : CmpOp} {f : Int → Int → Bool} (ho : OpR X (compareOp op) (rI0 fun i j => .bl (f i j))) : OpR X (compareOp op) (rB X.K (wOrd f)) := by
  intro pins s σ H x y v u Q I rx ry h
  obtain ⟨F, B, r, t, P, fh, vr, vt, w, post⟩ := h
  unfold wOrd at w
  split at w
  · have e1 := rv_int vr
    have e2 := rv_int vt
    subst e1 e2
    exact ho pins s σ H _ _ v u Q I rx ry ⟨_, _, rfl, rfl, post _ _ F H w Step.refl fh (Dq.bl _)⟩
  · exact w.elim
theorem op_inD' (neg : Bool) (hu : X.A.units + 200 < cLine) : OpR X (compareOp (if neg then .NotIn else .In)) (rB X.K (wIn neg)) := by
  intro pins s σ H x y v u Q I rx ry h
  obtain ⟨F, B, r, t, P, fh, vr, vt, w, post⟩ := h
  obtain ⟨⟨as, ra⟩, pa⟩ := rv_reads I fh vr rx
  obtain ⟨⟨bs, rb⟩, pb⟩ := rv_reads I fh vt ry
  unfold wIn at w
  split at w
  · rename_i ds e
    rw [e] at rb pb
    have pds : PyData.plainAll ds = true := by simpa [PyData.plain] using pb
    have hu2 : X.A.units + 1 + min (PyData.depthAll ds) (look r).depth < cLine := by have := w.1; omega
    have fin : ∀ b, b = (neg != ds.any fun z => PyData.eqv z (look r)) → EP X pins σ Q (.bool b) s := fun b hb => ⟨.bl b, H, I, rfl, post _ _ F H w.2 Step.refl fh (hb ▸ Dq.bl _)⟩
    cases neg with
    | true => exact SeqAt.notIn_list_data rb ra pds pa hu2 (fin _ (by simp))
    | false => exact SeqAt.in_list_data rb ra pds pa hu2 (fin _ (by simp))
  · rename_i ds e
    rw [e] at rb pb
    have pds : PyData.plainAll ds = true := by simpa [PyData.plain] using pb
    have hu2 : X.A.units + 1 + min (PyData.depthAll ds) (look r).depth < cLine := by have := w.1; omega
    have fin : ∀ b, b = (neg != ds.any fun z => PyData.eqv z (look r)) → EP X pins σ Q (.bool b) s := fun b hb => ⟨.bl b, H, I, rfl, post _ _ F H w.2 Step.refl fh (hb ▸ Dq.bl _)⟩
    cases neg with
    | true => exact SeqAt.notIn_tuple_data rb ra pds pa hu2 (fin _ (by simp))
    | false => exact SeqAt.in_tuple_data rb ra pds pa hu2 (fin _ (by simp))
  · rename_i z e
    split at w
    · rename_i z2 e2
      have e3 := rv_str vr e2
      have e4 := rv_str vt e
      subst e3 e4
      cases neg with
      | true => exact op_notIn_str pins s σ H _ _ v u Q I rx ry ⟨_, _, rfl, rfl, post _ _ F H w Step.refl fh (by show Dq _ _ (V.bl _) (.bool (true != sIn _ _)); unfold sIn; rw [Bool.true_bne]; exact Dq.bl _)⟩
      | false => exact op_in_str pins s σ H _ _ v u Q I rx ry ⟨_, _, rfl, rfl, post _ _ F H w Step.refl fh (by show Dq _ _ (V.bl _) (.bool (false != sIn _ _)); unfold sIn; rw [Bool.false_bne]; exact Dq.bl _)⟩
    · exact w.elim
  · exact w.elim
theorem op_cmpD (op : CmpOp) (hu : X.A.units + 200 < cLine) : OpR X (compareOp op) (rB X.K (wCmp op)) := by
  cases op with
  | Eq =>
    intro pins s σ H x y v u Q I rx ry h
    obtain ⟨F, B, r, t, P, fh, vr, vt, w, post⟩ := h
    obtain ⟨⟨as, ra⟩, pa⟩ := rv_reads I fh vr rx
    obtain ⟨⟨bs, rb⟩, pb⟩ := rv_reads I fh vt ry
    have w := wEqD_ok w
    have w1 : min (look r).depth (look t).depth ≤ 100 := w.1
    exact SeqAt.eq_plain ra rb pa pb (by omega) ⟨.bl _, H, I, rfl, post _ _ F H w.2 Step.refl fh (Dq.bl _)⟩
  | NotEq =>
    intro pins s σ H x y v u Q I rx ry h
    obtain ⟨F, B, r, t, P, fh, vr, vt, w, post⟩ := h
    obtain ⟨⟨as, ra⟩, pa⟩ := rv_reads I fh vr rx
    obtain ⟨⟨bs, rb⟩, pb⟩ := rv_reads I fh vt ry
    have w := wNeD_ok w
    have w1 : min (look r).depth (look t).depth ≤ 100 := w.1
    exact SeqAt.ne_plain ra rb pa pb (by omega) ⟨.bl _, H, I, rfl, post _ _ F H w.2 Step.refl fh (Dq.bl _)⟩
  | Lt => exact op_ordD op_lt
  | LtE => exact op_ordD op_le
  | Gt => exact op_ordD op_gt
  | GtE => exact op_ordD op_ge
  | In => exact op_inD' false hu
  | NotIn => exact op_inD' true hu
  | _ => intro pins s σ H x y v u Q I rx ry h; obtain ⟨F, B, r, t, P, fh, vr, vt, w, post⟩ := h; exact False.elim w
theorem atI_map {ds : List D} {xs : List V} {i : Int} {d : D} (h : DqAll K F xs ds) (e : atI ds i = some d) : ∃ v, atI xs i = some v ∧ Dq K F v d := by
  unfold atI at e ⊢
  rw [dpa_len h]
  cases q : ixN ds.length i with
  | none => rw [q] at e; cases e
  | some j =>
    rw [q] at e
    obtain ⟨v, h1, h2⟩ := dpa_get h e
    exact ⟨v, h1, h2⟩
theorem ix_D : IxR X (rB X.K wIx) := by
  intro value slice pins s σ H x y v u Q I rx ry h hs
  obtain ⟨F, B, r, t, P, fh, vr, vt, w, post⟩ := h
  unfold wIx at w
  split at w
  · rename_i ds i e1
    obtain ⟨a, xs, e1, h1, h2⟩ := rv_list fh vr e1
    have e2 := rv_int vt
    subst e1 e2
    split at w
    · rename_i d e3
      obtain ⟨z, g1, g2⟩ := atI_map h2 e3
      exact ix_list value slice pins s σ H _ _ v u Q I rx ry ⟨a, xs, i, z, rfl, rfl, .inl h1, g1, post _ _ F H w Step.refl fh g2⟩ hs
    · exact w.elim
  · rename_i ds i e1
    obtain ⟨a, xs, e1, h1, h2⟩ := rv_tup vr e1
    have e2 := rv_int vt
    subst e1 e2
    split at w
    · rename_i d e3
      obtain ⟨z, g1, g2⟩ := atI_map h2 e3
      exact ix_tup value slice pins s σ H _ _ v u Q I rx ry ⟨a, xs, i, z, rfl, rfl, SqT.mono fh h1, g1, post _ _ F H w Step.refl fh g2⟩ hs
    · exact w.elim
  · rename_i z i e1
    have e1 := rv_str vr e1
    have e2 := rv_int vt
    subst e1 e2
    obtain ⟨w1, w⟩ := w
    split at w
    · rename_i c e3
      exact ix_str value slice pins s σ H _ _ v u Q I rx ry ⟨z, i, c, rfl, rfl, w1, e3, post _ _ F H w Step.refl fh (Dq.str _)⟩ hs
    · exact w.elim
  · exact w.elim
def rSD (K : PySem.W.Frag) : V → Option Int → Option Int → Hp → VK → Prop := fun x lo hi H Q => ∃ (F B : Hp) (r : R) (P : R → Prop), Same F H ∧ RV K B F H r x ∧ wSl r lo hi P ∧
  ∀ t v F' H', P t → Step F H F' H' → Same F' H' → RV K H F' H' t v → Q v H'
theorem dpa_cut {ds : List D} {xs : List V} (h : DqAll K F xs ds) (lo hi : Option Int) : DqAll K F (cutV xs lo hi) (cutD ds lo hi) := by
  unfold cutV cutD
  rw [dpa_len h]
  exact dpa_take _ (dpa_drop _ h)
theorem cut_all {α : Type} (xs : List α) (lo hi : Option Int) (h : HT.sIx xs.length 0 lo = 0 ∧ HT.sIx xs.length xs.length hi = xs.length) : (xs.drop (HT.sIx xs.length 0 lo)).take (HT.sIx xs.length xs.length hi - HT.sIx xs.length 0 lo) = xs := by
  rw [h.1, h.2]
  simp
theorem sl_D : SlR X (rSD X.K) := by
  intro pins s σ H x v vl vu lo hi sl Q I rx hs pl pu h
  obtain ⟨F, B, r, P, fh, vr, w, post⟩ := h
  unfold wSl at w
  split at w
  · rename_i ds e1
    obtain ⟨a, xs, e1, h1, h2⟩ := rv_list fh vr e1
    subst e1
    exact sl_list pins s σ H _ v vl vu lo hi sl Q I rx hs pl pu ⟨a, xs, rfl, .inl h1, fun p hp => post _ _ F _ w (Step.own fh hp) (same_own fh hp) (rv_new fh hp (dpa_cut h2 lo hi))⟩
  · rename_i ds e1
    obtain ⟨a, xs, e1, h1, h2⟩ := rv_tup vr e1
    subst e1
    refine sl_tupA pins s σ H _ v vl vu lo hi sl Q I rx hs pl pu ⟨a, xs, rfl, SqT.mono fh h1, fun z => ?_, fun z p hp => ?_⟩
    · refine post _ _ F H w Step.refl fh ?_
      have e : cutD ds lo hi = ds := cut_all ds lo hi (by rw [← dpa_len h2]; exact z)
      rw [e]
      exact Dq.tup h1 h2
    · exact post _ _ _ _ w (Step.new fh hp) (same_new fh) (Dq.tup (.inl (.inl upd_same)) (dpa_mono (same_upd (Same.free fh hp)) (dpa_cut h2 lo hi)))
  · exact w.elim
end
end DL
end
section
set_option maxRecDepth 100000
set_option maxHeartbeats 4000000
namespace DL
open PySem PySem.Spec PyProof.Rows L2
inductive Tg where
  | nm (i : Nat)
  | tp (is : List Nat)
def Tg.slots : Tg → List Nat
  | .nm i => [i]
  | .tp is => is
inductive Bi where
  | len | abs | max1 | min1 | max2 | min2 | sum1 | all1 | any1 | list1 | tuple1 | int1 | str1
  deriving DecidableEq
mutual
inductive E where
  | v (i : Nat) | non | bl (b : Bool) | int (k : Int) | str (x : Str) | gl (k : Nat)
  | bin (op : Operator) (a b : E)
  | neg (a : E) | not (a : E)
  | cmp (op : CmpOp) (a b : E)
  | chn (op op' : CmpOp) (a b c : E)
  | isN (a : E) | notN (a : E)
  | and (a b : E) | or (a b : E)
  | tup (es : Es) | lst (es : Es)
  | ix (a b : E)
  | sl (a : E) (lo hi : Es)
  | call (f : Nat) (es : Es)
  | bi (b : Bi) (es : Es)
  | isi (a : E) (t : String)
  | lc (elt : E) (tg : Tg) (it : It) (cond : Es) (own : List (Str × Nat))
inductive Es where
  | nil
  | cons (e : E) (es : Es)
inductive It where
  | ex (e : E)
  | rng1 (a : E)
  | rng2 (a b : E)
  | enu (e : E)
  | zip (a b : E)
  | rvd (e : E)
end
def glD : Nat → D
  | 0 => .str "0123456789"
  | 1 => .int 600
  | 2 => .tuple [.int 0, .int 0, .int 1]
  | 3 => .tuple [.int 1, .int 1]
  | 4 => .tuple [.int 0, .int 1]
  | 5 => .str "abcdefghijklmnopqrstuvwxyz"
  | 6 => .int 12
  | 7 => .int 12
  | 8 => .int 12
  | 9 => .int 1000000000
  | 10 => .int 8
  | 11 => .tuple [.int 0, .int 1]
  | 12 => .tuple [.int 1, .int 1]
  | 13 => .tuple [.int 0, .int 0, .int 1]
  | 14 => .tuple [.int 0, .int 1]
  | 15 => .tuple [.int 1, .int 1]
  | 16 => .tuple [.int 0, .int 0, .int 1]
  | 17 => .tuple [.int 0, .int 0, .int 1]
  | _ => .none
abbrev DSp := List D → (R → Prop) → (Nat → Prop) → Prop
def wVar (ρ : En) (i : Nat) (Q : R → Prop) : Prop := match ρ[i]? with
  | some (some (.d x)) => Q (.d x)
  | some (some (.l ds _)) => Q (.l ds false)
  | _ => False
def mapInts : D → Option (List Int)
  | .list ds => ds.mapM fun d => match d with
    | .int i => some i
    | _ => none
  | _ => none
def wLen (r : R) (Q : R → Prop) : Prop := match look r with
  | .list ds => Q (.d (.int ds.length))
  | .tuple ds => Q (.d (.int ds.length))
  | .str z => z.length ≤ sizeLine ∧ Q (.d (.int z.length))
  | _ => False
def w1 (f : R → (R → Prop) → Prop) : List R → (R → Prop) → Prop
  | [r], Q => f r Q
  | _, _ => False
def w2 (f : R → R → (R → Prop) → Prop) : List R → (R → Prop) → Prop
  | [r, s], Q => f r s Q
  | _, _ => False
def wAbs (r : R) (Q : R → Prop) : Prop := match r with
  | .d (.int i) => Q (.d (.int (if i < 0 then -i else i)))
  | _ => False
def wMax1 (r : R) (Q : R → Prop) : Prop := ∃ ns : List Int, look r = .list (ns.map .int) ∧ 0 < ns.length ∧ ∀ m, m ∈ ns → (∀ y, y ∈ ns → y ≤ m) → Q (.d (.int m))
def wMin1 (r : R) (Q : R → Prop) : Prop := ∃ ns : List Int, look r = .list (ns.map .int) ∧ 0 < ns.length ∧ ∀ m, m ∈ ns → (∀ y, y ∈ ns → m ≤ y) → Q (.d (.int m))
def wII (f : Int → Int → Int) (r s : R) (Q : R → Prop) : Prop := match r, s with
  | .d (.int i), .d (.int j) => Q (.d (.int (f i j)))
  | _, _ => False
def wSum1 (r : R) (Q : R → Prop) : Prop := ∃ ns : List Int, look r = .list (ns.map .int) ∧ Q (.d (.int ns.sum))
def wAll1 (r : R) (Q : R → Prop) : Prop := ∃ bs : List Bool, look r = .list (bs.map .bool) ∧ Q (.d (.bool (bs.all id)))
def wAny1 (r : R) (Q : R → Prop) : Prop := ∃ bs : List Bool, look r = .list (bs.map .bool) ∧ Q (.d (.bool (bs.any id)))
def wList1 (r : R) (Q : R → Prop) : Prop := match look r with
  | .list ds => Q (.l ds true)
  | .tuple ds => Q (.l ds true)
  | _ => False
def wTup1 (r : R) (Q : R → Prop) : Prop := match look r with
  | .list ds => Q (.d (.tuple ds))
  | .tuple ds => Q (.d (.tuple ds))
  | _ => False
def wInt1 (r : R) (Q : R → Prop) : Prop := match r with
  | .d (.int i) => Q (.d (.int i))
  | .d (.bool b) => Q (.d (.int (if b then 1 else 0)))
  | _ => False
def wStr1 (r : R) (Q : R → Prop) : Prop := match r with
  | .d (.int i) => i.natAbs.log2 < 1920 ∧ Q (.d (.str (toString i)))
  | _ => False
def wBi (b : Bi) : List R → (R → Prop) → Prop := match b with
  | .len => w1 wLen
  | .abs => w1 wAbs
  | .max1 => w1 wMax1
  | .min1 => w1 wMin1
  | .max2 => w2 (wII fun i j => if j > i then j else i)
  | .min2 => w2 (wII fun i j => if j < i then j else i)
  | .sum1 => w1 wSum1
  | .all1 => w1 wAll1
  | .any1 => w1 wAny1
  | .list1 => w1 wList1
  | .tuple1 => w1 wTup1
  | .int1 => w1 wInt1
  | .str1 => w1 wStr1
def tyD : D → String
  | .none => "NoneType"
  | .bool _ => "bool"
  | .int _ => "int"
  | .str _ => "str"
  | .list _ => "list"
  | .tuple _ => "tuple"
  | .dict _ => "dict"
def isiB (d : D) (t : String) : Bool := (kitB (tyD d) t).getD false
def isiOk (d : D) (t : String) : Prop := kitB (tyD d) t ≠ none
def setAll : En → List Nat → List D → Option En
  | ρ, [], [] => some ρ
  | ρ, i :: is, d :: ds => setAll (ρ.set i (some (.d d))) is ds
  | _, _, _ => none
def stT (t : Tg) (d : D) (ρ : En) (k : En → Prop) : Prop := match t with
  | .nm i => k (ρ.set i (some (.d d)))
  | .tp is => (match d with
    | .tuple ds => (match setAll ρ is ds with
      | some ρ' => k ρ'
      | none => False)
    | _ => False)
structure wIf (k : Bool) (a b : Prop) : Prop where
  t : k = true → a
  f : k = false → b
theorem wIf_t {a b : Prop} (h : wIf true a b) : a := h.1 rfl
theorem wIf_f {a b : Prop} (h : wIf false a b) : b := h.2 rfl
def lcLoop (st : D → En → (En → Prop) → Prop) (tt : En → (Bool → Prop) → Prop) (el : En → (R → Prop) → Prop) (ρ : En) : List D → List D → (R → Prop) → Prop
  | [], acc, Q => Q (.l acc true)
  | d :: ds, acc, Q => st d ρ fun ρ2 => tt ρ2 fun b => wIf b (el ρ2 fun r => frzP r fun y => lcLoop st tt el ρ ds (acc ++ [y]) Q) (lcLoop st tt el ρ ds acc Q)
def borR (r : R) : Bool := match r with
  | .l _ false => true
  | _ => false
def rngD (lo : Int) (n : Nat) : List D := (List.range n).map fun (k : Nat) => .int (lo + k)
def enumD (ds : List D) : List D := (List.range ds.length).zipWith (fun (k : Nat) d => .tuple [.int k, d]) ds
def zipD (ds es : List D) : List D := ds.zipWith (fun d e => .tuple [d, e]) es
def strD (z : Str) : List D := z.cps.toList.map fun c => .str ⟨#[c]⟩
mutual
def wE (G : Nat → DSp) : E → En → (Nat → Prop) → (R → Prop) → Prop
  | .v i, ρ, X, Q => wVar ρ i Q
  | .non, ρ, X, Q => Q (.d .none)
  | .bl b, ρ, X, Q => Q (.d (.bool b))
  | .int k, ρ, X, Q => Q (.d (.int k))
  | .str x, ρ, X, Q => Q (.d (.str x))
  | .gl k, ρ, X, Q => Q (.d (glD k))
  | .bin op a b, ρ, X, Q => wE G a ρ X fun r => wE G b ρ X fun s => wBin op r s Q
  | .neg a, ρ, X, Q => wE G a ρ X fun r => wNeg r Q
  | .not a, ρ, X, Q => wE G a ρ X fun r => wTru r fun b => Q (.d (.bool (!b)))
  | .cmp op a b, ρ, X, Q => wE G a ρ X fun r => wE G b ρ X fun s => wCmp op r s Q
  | .chn op op' a b c, ρ, X, Q => wE G a ρ X fun r => wE G b ρ X fun s => wCmp op r s fun t => wTru t fun k => wIf k (wE G c ρ X fun u => wCmp op' s u Q) (Q (.d (.bool false)))
  | .isN a, ρ, X, Q => wE G a ρ X fun r => Q (.d (.bool (isNone (look r))))
  | .notN a, ρ, X, Q => wE G a ρ X fun r => Q (.d (.bool (!isNone (look r))))
  | .and a b, ρ, X, Q => wE G a ρ X fun r => wTru r fun k => wIf k (wE G b ρ X Q) (Q (.d (.bool false)))
  | .or a b, ρ, X, Q => wE G a ρ X fun r => wTru r fun k => wIf k (Q (.d (.bool true))) (wE G b ρ X Q)
  | .tup es, ρ, X, Q => wEs G es ρ X fun rs => wArgs rs fun ds => ds.length ≤ sizeLine ∧ Q (.d (.tuple ds))
  | .lst es, ρ, X, Q => wEs G es ρ X fun rs => wArgs rs fun ds => ds.length ≤ sizeLine ∧ Q (.l ds true)
  | .ix a b, ρ, X, Q => wE G a ρ X fun r => wE G b ρ X fun s => wIx r s Q
  | .sl a lo hi, ρ, X, Q => wE G a ρ X fun r => wO G lo ρ X fun l => wO G hi ρ X fun h => wSl r l h Q
  | .call f es, ρ, X, Q => wEs G es ρ X fun rs => wArgs rs fun ds => G f ds Q X
  | .bi b es, ρ, X, Q => wEs G es ρ X fun rs => wBi b rs Q
  | .isi a t, ρ, X, Q => wE G a ρ X fun r => isiOk (look r) t ∧ Q (.d (.bool (isiB (look r) t)))
  | .lc elt tg it cond own, ρ, X, Q => wI G it ρ X fun ds _ => lcLoop (stT tg) (fun ρ2 k => wCond G cond ρ2 k) (fun ρ2 k => wE G elt ρ2 (fun _ => False) k) (wip ρ (own.map (·.2))) ds [] Q
def wEs (G : Nat → DSp) : Es → En → (Nat → Prop) → (List R → Prop) → Prop
  | .nil, ρ, X, Q => Q []
  | .cons e es, ρ, X, Q => wE G e ρ X fun r => wEs G es ρ X fun rs => Q (r :: rs)
def wO (G : Nat → DSp) : Es → En → (Nat → Prop) → (Option Int → Prop) → Prop
  | .nil, ρ, X, Q => Q none
  | .cons e _, ρ, X, Q => wE G e ρ X fun r => match r with
    | .d (.int i) => Q (some i)
    | _ => False
def wCond (G : Nat → DSp) : Es → En → (Bool → Prop) → Prop
  | .nil, ρ, Q => Q true
  | .cons e _, ρ, Q => wE G e ρ (fun _ => False) fun r => wTru r Q
def wI (G : Nat → DSp) : It → En → (Nat → Prop) → (List D → Bool → Prop) → Prop
  | .ex e, ρ, X, Q => wE G e ρ X fun r => match look r with
    | .list ds => Q ds (borR r)
    | .tuple ds => Q ds false
    | _ => False
  | .rng1 a, ρ, X, Q => wE G a ρ X fun r => match r with
    | .d (.int j) => j ≤ sizeLine ∧ -(2 ^ 62) ≤ j ∧ Q (rngD 0 j.toNat) false
    | _ => False
  | .rng2 a b, ρ, X, Q => wE G a ρ X fun r => wE G b ρ X fun s => match r, s with
    | .d (.int i), .d (.int j) => j - i ≤ sizeLine ∧ (-(2 ^ 62) ≤ i ∧ i < 2 ^ 62 ∧ -(2 ^ 62) ≤ j ∧ j < 2 ^ 62) ∧ Q (rngD i (j - i).toNat) false
    | _, _ => False
  | .enu e, ρ, X, Q => wE G e ρ X fun r => match look r with
    | .list ds => Q (enumD ds) (borR r)
    | _ => False
  | .zip a b, ρ, X, Q => wE G a ρ X fun r => wE G b ρ X fun s => match look r, look s with
    | .list ds, .list es => Q (zipD ds es) (borR r || borR s)
    | .tuple ds, .tuple es => Q (zipD ds es) false
    | _, _ => False
  | .rvd e, ρ, X, Q => wE G e ρ X fun r => match look r with
    | .list ds => Q ds.reverse (borR r)
    | .tuple ds => Q ds.reverse false
    | _ => False
end
structure Tb where
  fn : Nat → Str
  xc : Nat → Str
  gl : Nat → Str
  gls : List Nat
  fns : List Nat
  xcs : List Nat
def bname : Bi → String
  | .len => "len" | .abs => "abs" | .max1 => "max" | .min1 => "min" | .max2 => "max" | .min2 => "min" | .sum1 => "sum" | .all1 => "all" | .any1 => "any"
  | .list1 => "list" | .tuple1 => "tuple" | .int1 => "int" | .str1 => "str"
def bIsTy : Bi → Bool
  | .list1 => true | .tuple1 => true | .int1 => true | .str1 => true | _ => false
def isLoc (k : Option NameKind) : Bool := match k with
  | some .local => true
  | some .cell => true
  | _ => false
def isVis (k : Option NameKind) : Bool := match k with
  | some .local => true
  | some .cell => true
  | some .free => true
  | _ => false
def isGlb (k : Option NameKind) : Bool := match k with
  | some .globalImplicit => true
  | _ => false
def ckN (N : List Str) (i : Nat) (x : Str) : Bool := decide (N[i]? = some x)
def dbg (x : Str) : Bool := !(x == ("__debug__" : Str)) && !(x == ("__classdict__" : Str))
def ckV (N : List Str) (sc : Scope) (i : Nat) (x : Str) : Bool := ckN N i x && isVis (sc.names.lookup x) && dbg x
def ckG (sc : Scope) (y x : Str) : Bool := decide (x = y) && isGlb (sc.names.lookup x) && dbg x
def plainX (e : Expr) : Bool := match e with
  | .Starred _ _ => false
  | .Slice _ _ _ _ => false
  | .ListComp _ _ _ _ => true
  | .SetComp _ _ _ _ => false
  | .DictComp _ _ _ _ _ => false
  | .Set _ _ _ => false
  | _ => true
def ckT (N : List Str) (sc : Scope) (ok : List Nat) (t : Tg) (e : Expr) : Bool := match t with
  | .nm i => (match e with
    | .Name x _ => ckN N i x && isLoc (sc.names.lookup x) && ok.contains i
    | _ => false)
  | .tp is => (match e with
    | .Tuple es _ _ => decide (es.length = is.length) && (es.zip is).all fun p => match p.1 with
      | .Name x _ => ckN N p.2 x && isLoc (sc.names.lookup x) && ok.contains p.2
      | _ => false
    | _ => false)
mutual
def ckE (T : Tb) (N : List Str) (cm : Bool) (sc : Scope) : E → Expr → Bool
  | .v i, x => (match x with
    | .Name x _ => ckV N sc i x
    | _ => false)
  | .non, x => (match x with
    | .Constant .none _ _ => true
    | _ => false)
  | .bl b, x => (match x with
    | .Constant (.bool c) _ _ => b == c
    | _ => false)
  | .int k, x => (match x with
    | .Constant (.int c) _ _ => decide (k = c)
    | _ => false)
  | .str k, x => (match x with
    | .Constant (.str c) _ _ => decide (k = c)
    | _ => false)
  | .gl k, x => (match x with
    | .Name x _ => T.gls.contains k && ckG sc (T.gl k) x
    | _ => false)
  | .bin op a b, x => (match x with
    | .BinOp p o q _ => decide (op = o) && ckE T N cm sc a p && ckE T N cm sc b q
    | _ => false)
  | .neg a, x => (match x with
    | .UnaryOp .USub p _ => ckE T N cm sc a p
    | _ => false)
  | .not a, x => (match x with
    | .UnaryOp .Not p _ => ckE T N cm sc a p
    | _ => false)
  | .cmp op a b, x => (match x with
    | .Compare p [o] [q] _ => decide (op = o) && plainX q && ckE T N cm sc a p && ckE T N cm sc b q
    | _ => false)
  | .chn op op' a b c, x => (match x with
    | .Compare p [o, o'] [q, r] _ => decide (op = o) && decide (op' = o') && plainX q && plainX r && ckE T N cm sc a p && ckE T N cm sc b q && ckE T N cm sc c r
    | _ => false)
  | .isN a, x => (match x with
    | .Compare p [.Is] [.Constant .none _ _] _ => ckE T N cm sc a p
    | _ => false)
  | .notN a, x => (match x with
    | .Compare p [.IsNot] [.Constant .none _ _] _ => ckE T N cm sc a p
    | _ => false)
  | .and a b, x => (match x with
    | .BoolOp .And (p :: q :: r) ps => ckE T N cm sc a p && (match r with
      | [] => ckE T N cm sc b q
      | _ => ckE T N cm sc b (.BoolOp .And (q :: r) ps))
    | _ => false)
  | .or a b, x => (match x with
    | .BoolOp .Or (p :: q :: r) ps => ckE T N cm sc a p && (match r with
      | [] => ckE T N cm sc b q
      | _ => ckE T N cm sc b (.BoolOp .Or (q :: r) ps))
    | _ => false)
  | .tup es, x => (match x with
    | .Tuple xs _ _ => ckEs T N cm sc es xs
    | _ => false)
  | .lst es, x => (match x with
    | .List xs _ => ckEs T N cm sc es xs
    | _ => false)
  | .ix a b, x => (match x with
    | .Subscript p q _ => plainX q && ckE T N cm sc a p && ckE T N cm sc b q
    | _ => false)
  | .sl a lo hi, x => (match x with
    | .Subscript p (.Slice l h none _) _ => ckE T N cm sc a p && ckO T N cm sc lo l && ckO T N cm sc hi h
    | _ => false)
  | .call f es, x => (match x with
    | .Call (.Name y _) (p :: ps) [] _ => cm && T.fns.contains f && ckG sc (T.fn f) y && ckEs T N cm sc es (p :: ps)
    | _ => false)
  | .bi b es, x => (match x with
    | .Call (.Name y _) (p :: ps) [] _ => cm && ckG sc (bname b) y && ckEs T N cm sc es (p :: ps)
    | _ => false)
  | .isi a t, x => (match x with
    | .Call (.Name y _) [p, .Name z _] [] _ => ckG sc "isinstance" y && plainX p && ckE T N cm sc a p && ckG sc t z && ["int", "bool", "str", "tuple", "list"].contains t
    | _ => false)
  | .lc elt tg it cond own, x => (match x with
    | .ListComp e [⟨t, i, ifs, 0⟩] scope _ => cm && ckIt T N cm sc it t i && blkC N sc scope own && ckT N scope (own.map (·.2)) tg t && ckE T N cm (relS scope sc) elt e && ckCond T N cm (relS scope sc) cond ifs
    | _ => false)
def ckEs (T : Tb) (N : List Str) (cm : Bool) (sc : Scope) : Es → List Expr → Bool
  | .nil, x => (match x with
    | [] => true
    | _ => false)
  | .cons e es, x => (match x with
    | p :: ps => plainX p && ckE T N cm sc e p && ckEs T N cm sc es ps
    | _ => false)
def ckO (T : Tb) (N : List Str) (cm : Bool) (sc : Scope) : Es → Option Expr → Bool
  | .nil, x => (match x with
    | none => true
    | _ => false)
  | .cons e es, x => (match x with
    | some p => ckE T N cm sc e p
    | _ => false)
def ckCond (T : Tb) (N : List Str) (cm : Bool) (sc : Scope) : Es → List Expr → Bool
  | .nil, x => (match x with
    | [] => true
    | _ => false)
  | .cons e es, x => (match x with
    | [p] => ckE T N cm sc e p
    | _ => false)
def ckIt (T : Tb) (N : List Str) (cm : Bool) (sc : Scope) : It → Expr → Expr → Bool
  | .ex e, t, x => plainX x && ckE T N cm sc e x
  | .rng1 a, t, x => (match x with
    | .Call (.Name y _) [p] [] _ => ckG sc "range" y && plainX p && ckE T N cm sc a p
    | _ => false)
  | .rng2 a b, t, x => (match x with
    | .Call (.Name y _) [p, q] [] _ => ckG sc "range" y && plainX p && plainX q && ckE T N cm sc a p && ckE T N cm sc b q
    | _ => false)
  | .enu e, t, x => (match x, t with
    | .Call (.Name y _) [p] [] _, .Tuple _ _ _ => ckG sc "enumerate" y && plainX p && ckE T N cm sc e p
    | _, _ => false)
  | .zip a b, t, x => (match x, t with
    | .Call (.Name y _) [p, q] [] _, .Tuple _ _ _ => ckG sc "zip" y && plainX p && plainX q && ckE T N cm sc a p && ckE T N cm sc b q
    | _, _ => false)
  | .rvd e, t, x => (match x with
    | .Call (.Name y _) [p] [] _ => ckG sc "reversed" y && plainX p && ckE T N cm sc e p
    | _ => false)
end
end DL
end
section
set_option maxRecDepth 100000
set_option maxHeartbeats 4000000
namespace DL
open PySem PySem.Spec PyProof.Rows L2
def clsV (K : PySem.W.Frag) (T : Tb) (c : Nat) : Value := .ref (He.ga K (T.xc c))
def lift (K : PySem.W.Frag) (T : Tb) (sp : DSp) : Sp := fun vs H Q E => ∃ (F : Hp) (ds : List D) (P : R → Prop) (PE : Nat → Prop), Same F H ∧ DqAll K F vs ds ∧ sp ds P PE ∧
  (∀ r v F' H', P r → Step F H F' H' → Same F' H' → RV K H F' H' r v → Q v H') ∧ ∀ c F' H', PE c → Step F H F' H' → Same F' H' → E (clsV K T c) none H'
structure FnT (T : Tb) (G : Nat → DSp) (n : Nat) (X : Cx) (f : Nat) : Prop where
  ex : ∃ (k : Nat) (a : Addr) (fd : FuncData) (ps : List Str), k ≤ n ∧ FnOk X.prog X.w X.K X.mg X.base (L2.CX X.prog X.w) k a fd ps (lift X.K T (G f)) ∧ X.mg (T.fn f) = some (.ref a) ∧ PySem.W.keepIn X.K (.ref a) = true ∧ Binds X.K fd ps []
structure GX (T : Tb) (G : Nat → DSp) (n : Nat) (cm : Bool) (W : WX) (X : Cx) : Prop where
  room : cm = true → Room n X.A
  calm : cm = true → X.calm = true
  hu : X.A.units + 200 < cLine
  fns : ∀ f ∈ T.fns, FnT T G n X f
  gl : ∀ k ∈ T.gls, ∃ u v, X.mg (T.gl k) = some u ∧ RelV v u ∧ Dq X.K (fun _ => none) v (glD k)
  bi : ∀ b : Bi, X.mg (bname b) = none
  bo : ∀ x ∈ ["isinstance", "range", "enumerate", "zip", "reversed", "int", "bool", "str", "tuple", "list"], X.mg (Str.ofString x) = none
  tk : Takes X W
  nd : X.N.Nodup
structure SX (K : PySem.W.Frag) (T : Tb) (W : WX) (F0 H0 F : Hp) (ρ : En) (σ : L2.St) (H : Hp) (Ex : Nat → Prop) : Prop where
  sr : SR K F0 H0 F ρ σ H
  ex : ∀ c F' H', Ex c → Step F H F' H' → Same F' H' → W (clsV K T c) none σ H'
theorem SX.step {K : PySem.W.Frag} {T : Tb} {W : WX} {F0 H0 F H F' H' : Hp} {ρ : En} {σ : L2.St} {Ex : Nat → Prop} (x : SX K T W F0 H0 F ρ σ H Ex) (s : Step F H F' H') (fh : Same F' H') : SX K T W F0 H0 F' ρ σ H' Ex :=
  ⟨x.sr.step s fh, fun c F2 H2 hc s2 f2 => x.ex c F2 H2 hc (s.trans s2) f2⟩
def tE (K : PySem.W.Frag) (T : Tb) (W : WX) (w : En → (Nat → Prop) → (R → Prop) → Prop) : TE := fun σ H Q =>
  ∃ (F0 H0 F : Hp) (ρ : En) (Ex : Nat → Prop) (P : R → Prop), SX K T W F0 H0 F ρ σ H Ex ∧ w ρ Ex P ∧ ∀ r v F' H', P r → Step F H F' H' → Same F' H' → RV K H F' H' r v → Q v H'
def RVs (K : PySem.W.Frag) (B F H : Hp) : List R → List V → Prop
  | [], vs => vs = []
  | r :: rs, vs => ∃ x xs, vs = x :: xs ∧ RV K B F H r x ∧ RVs K B F H rs xs
def tA (K : PySem.W.Frag) (T : Tb) (W : WX) (w : En → (Nat → Prop) → (List R → Prop) → Prop) : TA := fun σ H Q =>
  ∃ (F0 H0 F : Hp) (ρ : En) (Ex : Nat → Prop) (P : List R → Prop), SX K T W F0 H0 F ρ σ H Ex ∧ w ρ Ex P ∧ ∀ rs vs F' H', P rs → Step F H F' H' → Same F' H' → RVs K H F' H' rs vs → Q vs H'
def tOO (K : PySem.W.Frag) (T : Tb) (W : WX) (w : En → (Nat → Prop) → (Option Int → Prop) → Prop) : TO := fun σ H Q =>
  ∃ (F0 H0 F : Hp) (ρ : En) (Ex : Nat → Prop) (P : Option Int → Prop), SX K T W F0 H0 F ρ σ H Ex ∧ w ρ Ex P ∧ ∀ o F' H', P o → Step F H F' H' → Same F' H' → Q o H'
def JSeq (K : PySem.W.Frag) (J : L2.It) (b : Bool) (F H : Hp) (ds : List D) : Prop := ∀ F2 H2, Same F F2 → Same F2 H2 → (b = true → Same H H2) →
  (∀ i d, ds[i]? = some d → J.go i H2 ∧ ∀ x H3, J.yld i H2 x H3 → ∃ F3, Step F2 H2 F3 H3 ∧ Same F3 H3 ∧ Dq K F3 x d) ∧ J.stop ds.length H2
def tI (K : PySem.W.Frag) (T : Tb) (W : WX) (w : En → (Nat → Prop) → (List D → Bool → Prop) → Prop) : TI := fun σ H Q =>
  ∃ (F0 H0 F : Hp) (ρ : En) (Ex : Nat → Prop) (P : List D → Bool → Prop), SX K T W F0 H0 F ρ σ H Ex ∧ w ρ Ex P ∧
    ∀ ds b J F' H', P ds b → Step F H F' H' → Same F' H' → JSeq K J b F' H' ds → ds.length ≤ sizeLine → Q J H'
section
variable {X : Cx} {K : PySem.W.Frag} {T : Tb} {W : WX} {F0 H0 F H F' H' B : Hp} {ρ : En} {σ : L2.St} {Ex : Nat → Prop} {Q : VK}
theorem PE.imp {x : Expr} {t t' : TE} (h : PE X x t) (i : ∀ σ H Q, t' σ H Q → t σ H Q) : PE X x t' := ⟨fun pins s σ H Q I q => h.run pins s σ H Q I (i σ H Q q)⟩
theorem PT.imp {x : Expr} {t t' : TT} (h : PT X x t) (i : ∀ σ H Q, t' σ H Q → t σ H Q) : PT X x t' := ⟨fun pins s σ H Q I q => h.run pins s σ H Q I (i σ H Q q)⟩
theorem PW.imp {x : Expr} {t t' : TT} (h : PW X x t) (i : ∀ σ H Q, t' σ H Q → t σ H Q) : PW X x t' := ⟨fun wh pins s σ H Q I q => h.run wh pins s σ H Q I (i σ H Q q)⟩
theorem PA.imp {x : List Expr} {t t' : TA} (h : PA X x t) (i : ∀ σ H Q, t' σ H Q → t σ H Q) : PA X x t' := ⟨fun pos pins s σ H Q I q => h.run pos pins s σ H Q I (i σ H Q q)⟩
theorem PO.imp {x : Option Expr} {t t' : TO} (h : PO X x t) (i : ∀ σ H Q, t' σ H Q → t σ H Q) : PO X x t' := ⟨fun pins s σ H Q I q => h.run pins s σ H Q I (i σ H Q q)⟩
theorem PI.imp {tg x : Expr} {t t' : TI} (h : PI X tg x t) (i : ∀ σ H Q, t' σ H Q → t σ H Q) : PI X tg x t' := ⟨fun pins s σ H Q I q => h.run pins s σ H Q I (i σ H Q q)⟩
theorem tE.mono {w : En → (Nat → Prop) → (R → Prop) → Prop} {Q Q' : VK} (h : tE K T W w σ H Q) (i : ∀ v H, Q v H → Q' v H) : tE K T W w σ H Q' :=
  let ⟨a, b, c, d, e, f, sx, q, z⟩ := h
  ⟨a, b, c, d, e, f, sx, q, fun r v F' H' h1 h2 h3 h4 => i _ _ (z r v F' H' h1 h2 h3 h4)⟩
theorem tA.mono {w : En → (Nat → Prop) → (List R → Prop) → Prop} {Q Q' : List V → Hp → Prop} (h : tA K T W w σ H Q) (i : ∀ v H, Q v H → Q' v H) : tA K T W w σ H Q' :=
  let ⟨a, b, c, d, e, f, sx, q, z⟩ := h
  ⟨a, b, c, d, e, f, sx, q, fun r v F' H' h1 h2 h3 h4 => i _ _ (z r v F' H' h1 h2 h3 h4)⟩
theorem run1 {w : En → (Nat → Prop) → (R → Prop) → Prop} {k : R → Prop} (sx : SX K T W F0 H0 F ρ σ H Ex) (h : w ρ Ex k) :
    tE K T W w σ H (fun x H1 => ∃ F1 r, Step F H F1 H1 ∧ Same F1 H1 ∧ RV K H F1 H1 r x ∧ k r) :=
  ⟨F0, H0, F, ρ, Ex, k, sx, h, fun r v F' H' h1 h2 h3 h4 => ⟨F', r, h2, h3, h4, h1⟩⟩
theorem runA {w : En → (Nat → Prop) → (List R → Prop) → Prop} {k : List R → Prop} (sx : SX K T W F0 H0 F ρ σ H Ex) (h : w ρ Ex k) :
    tA K T W w σ H (fun x H1 => ∃ F1 r, Step F H F1 H1 ∧ Same F1 H1 ∧ RVs K H F1 H1 r x ∧ k r) :=
  ⟨F0, H0, F, ρ, Ex, k, sx, h, fun r v F' H' h1 h2 h3 h4 => ⟨F', r, h2, h3, h4, h1⟩⟩
theorem runO {w : En → (Nat → Prop) → (Option Int → Prop) → Prop} {k : Option Int → Prop} (sx : SX K T W F0 H0 F ρ σ H Ex) (h : w ρ Ex k) :
    tOO K T W w σ H (fun x H1 => ∃ F1, Step F H F1 H1 ∧ Same F1 H1 ∧ k x) :=
  ⟨F0, H0, F, ρ, Ex, k, sx, h, fun r F' H' h1 h2 h3 => ⟨F', h2, h3, h1⟩⟩
theorem tOO.mono {w : En → (Nat → Prop) → (Option Int → Prop) → Prop} {Q Q' : Option Int → Hp → Prop} (h : tOO K T W w σ H Q) (i : ∀ v H, Q v H → Q' v H) : tOO K T W w σ H Q' :=
  let ⟨a, b, c, d, e, f, sx, q, z⟩ := h
  ⟨a, b, c, d, e, f, sx, q, fun r F' H' h1 h2 h3 => i _ _ (z r F' H' h1 h2 h3)⟩
theorem tE_bin {wa wb : En → (Nat → Prop) → (R → Prop) → Prop} {w2 : R → R → (R → Prop) → Prop} (h : tE K T W (fun ρ Ex P => wa ρ Ex fun r => wb ρ Ex fun s => w2 r s P) σ H Q) : tOp (rB K w2) (tE K T W wa) (tE K T W wb) σ H Q := by
  obtain ⟨F0, H0, F, ρ, Ex, P, sx, h, post⟩ := h
  refine (run1 sx h).mono fun x H1 ⟨F1, r, s1, f1, v1, h1⟩ => ?_
  refine (run1 (sx.step s1 f1) h1).mono fun y H2 ⟨F2, s, s2, f2, v2, h2⟩ => ?_
  exact ⟨F2, H, r, s, P, f2, v1.step s2, v2.base s1.h, h2, fun t v F' H' hp s3 f3 v3 => post t v F' H' hp ((s1.trans s2).trans s3) f3 (v3.base (s1.h.trans s2.h))⟩
theorem tE_un {wa : En → (Nat → Prop) → (R → Prop) → Prop} {w2 : R → (R → Prop) → Prop} (h : tE K T W (fun ρ Ex P => wa ρ Ex fun r => w2 r P) σ H Q) : tUn (rU1 K w2) (tE K T W wa) σ H Q := by
  obtain ⟨F0, H0, F, ρ, Ex, P, sx, h, post⟩ := h
  refine (run1 sx h).mono fun x H1 ⟨F1, r, s1, f1, v1, h1⟩ => ?_
  exact ⟨F1, H, r, P, f1, v1, h1, fun t v F' H' hp s3 f3 v3 => post t v F' H' hp (s1.trans s3) f3 (v3.base s1.h)⟩
theorem frz_at {r : R} {v : V} {x : D} (h : RV K B F H r v) (s : Same F F') (fh : Same F' H) (e : DL.frz r = some x) : ∃ F2, Same F' F2 ∧ Same F2 H ∧ Dq K F2 v x ∧ ∀ a, B a ≠ none → F' a = none → F2 a = none := by
  cases r with
  | d y => cases e; exact ⟨F', Same.refl _, fh, dp_mono s h, fun _ _ z => z⟩
  | l ds fr =>
    cases fr with
    | false => cases e
    | true =>
      cases e
      obtain ⟨a, xs, h1, h2, h3, h4, h5⟩ := h
      subst h1
      cases q : F' a with
      | none =>
        refine ⟨upd F' a (.lst xs), same_upd q, upd_le fh h2, .lst (.inl upd_same) (dpa_mono (s.trans (same_upd q)) h3), fun b hb hf => ?_⟩
        have ne : b ≠ a := fun z => by subst z; exact hb (h5 rfl)
        rw [upd_ne ne]; exact hf
      | some o =>
        have e := fh a o q
        rw [h2] at e
        cases e
        exact ⟨F', Same.refl _, fh, .lst (.inl q) (dpa_mono s h3), fun _ _ z => z⟩
theorem frzP_ok {r : R} {v : V} {k : D → Prop} (h : RV K B F H r v) (fh : Same F H) (e : frzP r k) : ∃ F2 x, Same F F2 ∧ Same F2 H ∧ Dq K F2 v x ∧ (∀ a, B a ≠ none → F a = none → F2 a = none) ∧ k x := by
  unfold frzP at e
  cases q : frz r with
  | none => rw [q] at e; exact e.elim
  | some x =>
    rw [q] at e
    obtain ⟨F2, a, b, c, d⟩ := frz_at h (Same.refl _) fh q
    exact ⟨F2, x, a, b, c, d, e⟩
theorem args_at : ∀ {rs : List R} {vs : List V} {k : List D → Prop} {F' : Hp}, RVs K B F H rs vs → Same F F' → Same F' H → wArgs rs k → ∃ F2 ds, Same F' F2 ∧ Same F2 H ∧ DqAll K F2 vs ds ∧ (∀ a, B a ≠ none → F' a = none → F2 a = none) ∧ k ds
  | [], vs, k, F', h, s, fh, w => by
    have e : vs = [] := h
    subst e
    exact ⟨F', [], Same.refl _, fh, .nil, fun _ _ z => z, w⟩
  | r :: rs, vs, k, F', h, s, fh, w => by
    obtain ⟨x, xs, e, h1, h2⟩ := h
    subst e
    unfold wArgs frzP at w
    cases q : frz r with
    | none => rw [q] at w; exact w.elim
    | some d =>
      rw [q] at w
      obtain ⟨F2, a1, b1, c1, d1⟩ := frz_at h1 s fh q
      obtain ⟨F3, ds, a2, b2, c2, d2, e2⟩ := args_at h2 (s.trans a1) b1 w
      exact ⟨F3, d :: ds, a1.trans a2, b2, .cons (dp_mono a2 c1) c2, fun a hb hf => d2 a hb (d1 a hb hf), e2⟩
theorem step_frz {F1 H1 F2 : Hp} (s : Step F H F1 H1) (e : Same F1 F2) (z : ∀ a, H a ≠ none → F1 a = none → F2 a = none) : Step F H F2 H1 :=
  ⟨s.f.trans e, s.h, fun a h1 h2 => z a h1 (s.s a h1 h2)⟩
theorem RVs.step {rs : List R} {vs : List V} (h : RVs K B F H rs vs) (s : Step F H F' H') : RVs K B F' H' rs vs := by
  induction rs generalizing vs with
  | nil => exact h
  | cons r rs ih =>
    obtain ⟨x, xs, e, h1, h2⟩ := h
    exact ⟨x, xs, e, h1.step s, ih h2⟩
theorem RVs.base {B' : Hp} {rs : List R} {vs : List V} (h : RVs K B F H rs vs) (s : Same B' B) : RVs K B' F H rs vs := by
  induction rs generalizing vs with
  | nil => exact h
  | cons r rs ih =>
    obtain ⟨x, xs, e, h1, h2⟩ := h
    exact ⟨x, xs, e, h1.base s, ih h2⟩
def isSpec (x : Expr) : Bool := match x with
  | .UnaryOp .Not _ _ => true
  | .BoolOp _ _ _ => true
  | .IfExp _ _ _ _ => true
  | .Compare _ _ _ _ => true
  | _ => false
def isBO (x : Expr) : Bool := match x with
  | .BoolOp _ _ _ => true
  | _ => false
structure Snd (X : Cx) (x : Expr) (t : TE) : Prop where
  pe : PE X x t
  pt : PT X x (tTest t)
  pw : isBO x = true → PW X x (tTest t)
theorem isTrue_plainE {x : Expr} {env : Env} (h : isSpec x = false) : ∀ whole, isTrue x env whole = (do let v ← whole; standAt x.pos; holding [v] (truthy v)) := by
  cases x <;> first
    | (intro _; rfl)
    | (unfold isSpec at h; cases h)
    | (rename_i op _ _; cases op <;> first | (intro _; rfl) | (unfold isSpec at h; cases h))
theorem isBO_spec {x : Expr} (h : isSpec x = false) : isBO x = false := by
  cases x <;> first | rfl | (unfold isSpec at h; cases h)
theorem Snd.of {x : Expr} {t : TE} (h : PE X x t) (n : isSpec x = false) : Snd X x t :=
  ⟨h, pt_val h (isTrue_plainE n), fun z => by rw [isBO_spec n] at z; cases z⟩
theorem Snd.imp {x : Expr} {t t' : TE} (h : Snd X x t) (i : ∀ σ H Q, t' σ H Q → t σ H Q) : Snd X x t' :=
  ⟨PE.imp h.pe i, PT.imp h.pt fun σ H Q q => i σ H _ q, fun z => PW.imp (h.pw z) fun σ H Q q => i σ H _ q⟩
theorem starNo {e : Expr} {es : List Expr} {env : Env} (h : plainX e = true) : starEach (e :: es) env = (false, eval e env) :: starEach es env := by
  cases e <;> first | rfl | (unfold plainX at h; cases h)
theorem noSwap {e : Expr} {t : Option Expr} {l : Nat} {env : Env} (h : plainX e = true) (n : ∀ a b c d, e ≠ .ListComp a b c d) : swapsWith e t l env = pure false := by
  cases e <;> first | rfl | exact absurd rfl (n _ _ _ _) | (unfold plainX at h; cases h)
theorem noFold {e : Expr} {env : Env} (h : plainX e = true) : ∀ x, foldedSetIterable e env x = pure x := by
  cases e <;> first | (intro _; rfl) | (unfold plainX at h; cases h)
theorem plainIx {e : Expr} (h : plainX e = true) : PlainIx e := by
  cases e <;> first | (intro _ _; rfl) | (unfold plainX at h; cases h)
theorem noMarks {e : Expr} {op : CmpOp} (h : plainX e = true) : behindInMarks op e = false := by
  cases e <;> first | rfl | (unfold plainX at h; cases h)
theorem ba {a b : Bool} (h : (a && b) = true) : a = true ∧ b = true := Bool.and_eq_true_iff.mp h
theorem ckV_ok {N : List Str} {sc : Scope} {i : Nat} {x : Str} (h : ckV N sc i x = true) : N[i]? = some x ∧ (sc.names.lookup x = some .local ∨ sc.names.lookup x = some .cell ∨ sc.names.lookup x = some .free) ∧
    (x == ("__debug__" : Str)) = false ∧ (x == ("__classdict__" : Str)) = false := by
  unfold ckV dbg at h
  obtain ⟨h, h3⟩ := ba h
  obtain ⟨h1, h2⟩ := ba h
  obtain ⟨h4, h5⟩ := ba h3
  refine ⟨of_decide_eq_true h1, ?_, by simpa using h4, by simpa using h5⟩
  cases q : sc.names.lookup x with
  | none => rw [q] at h2; cases h2
  | some k =>
    rw [q] at h2
    cases k <;> first | exact .inl rfl | exact .inr (.inl rfl) | exact .inr (.inr rfl) | cases h2
theorem ckG_ok {sc : Scope} {y x : Str} (h : ckG sc y x = true) : x = y ∧ sc.names.lookup x = some .globalImplicit ∧ (x == ("__debug__" : Str)) = false := by
  unfold ckG dbg at h
  obtain ⟨h, h3⟩ := ba h
  obtain ⟨h1, h2⟩ := ba h
  obtain ⟨h4, h5⟩ := ba h3
  refine ⟨of_decide_eq_true h1, ?_, by simpa using h4⟩
  cases q : sc.names.lookup x with
  | none => rw [q] at h2; cases h2
  | some k =>
    rw [q] at h2
    cases k <;> first | rfl | cases h2
theorem ckEs_plain {T : Tb} {N : List Str} {cm : Bool} {sc : Scope} : ∀ {es : Es} {xs : List Expr}, ckEs T N cm sc es xs = true → ∀ (env : Env) (pos : Pos), (backTo pos (starEach xs env)).any (·.1) = false
  | .nil, [], _, _, _ => rfl
  | .nil, _ :: _, h, _, _ => by unfold ckEs at h; cases h
  | .cons e es, [], h, _, _ => by unfold ckEs at h; cases h
  | .cons e es, x :: xs, h, env, pos => by
    unfold ckEs at h
    obtain ⟨h1, h2⟩ := ba h
    obtain ⟨h3, h4⟩ := ba h1
    rw [starNo h3]
    have ih := ckEs_plain h2 env pos
    unfold backTo at ih ⊢
    rw [List.map_cons, List.any_cons, ih] <;> rfl
end
end DL
end
section
set_option maxRecDepth 100000
set_option maxHeartbeats 4000000
namespace DL
open PySem PySem.Spec PyProof.Rows L2 RZ RT
def rC (K : PySem.W.Frag) (w : List R → (R → Prop) → Prop) : List V → Hp → VK → Prop := fun vs H Q => ∃ (F B : Hp) (rs : List R) (P : R → Prop), Same F H ∧ RVs K B F H rs vs ∧ w rs P ∧
  ∀ t v F' H', P t → Step F H F' H' → Same F' H' → RV K H F' H' t v → Q v H'
section
variable {X : Cx} {K : PySem.W.Frag} {F H B : Hp}
theorem rvs1 {r : R} {vs : List V} (h : RVs K B F H [r] vs) : ∃ x, vs = [x] ∧ RV K B F H r x := by
  obtain ⟨x, xs, e, h1, h2⟩ := h
  have e2 : xs = [] := h2
  subst e2
  exact ⟨x, e, h1⟩
theorem rvs2 {r s : R} {vs : List V} (h : RVs K B F H [r, s] vs) : ∃ x y, vs = [x, y] ∧ RV K B F H r x ∧ RV K B F H s y := by
  obtain ⟨x, xs, e, h1, h2⟩ := h
  obtain ⟨y, e2, h3⟩ := rvs1 h2
  subst e2
  exact ⟨x, y, e, h1, h3⟩
theorem rv_ints {r : R} {x : V} {ns : List Int} (fh : Same F H) (h : RV K B F H r x) (e : look r = .list (ns.map .int)) : ∃ a, x = .ref a ∧ SqL K H a (ns.map V.int) := by
  obtain ⟨a, xs, e1, h1, h2⟩ := rv_list fh h e
  rw [dpa_ints h2] at h1
  exact ⟨a, e1, .inl h1⟩
theorem rv_bls {r : R} {x : V} {ns : List Bool} (fh : Same F H) (h : RV K B F H r x) (e : look r = .list (ns.map .bool)) : ∃ a, x = .ref a ∧ SqL K H a (ns.map V.bl) := by
  obtain ⟨a, xs, e1, h1, h2⟩ := rv_list fh h e
  rw [dpa_bls h2] at h1
  exact ⟨a, e1, .inl h1⟩
theorem w1_inv {w : R → (R → Prop) → Prop} {P : R → Prop} : ∀ {rs : List R}, w1 w rs P → ∃ r, rs = [r] ∧ w r P
  | [], h => False.elim h
  | [r], h => ⟨r, rfl, h⟩
  | _ :: _ :: _, h => False.elim h
theorem w2_inv {w : R → R → (R → Prop) → Prop} {P : R → Prop} : ∀ {rs : List R}, w2 w rs P → ∃ r s, rs = [r, s] ∧ w r s P
  | [], h => False.elim h
  | [_], h => False.elim h
  | [r, s], h => ⟨r, s, rfl, h⟩
  | _ :: _ :: _ :: _, h => False.elim h
theorem call1 {f : Value} {w : R → (R → Prop) → Prop} (h : ∀ (pins : List (Addr × Obj)) (s : Shared) (σ : L2.St) (H : Hp) (x : V) (us : List Value) (Q : VK) (F B : Hp) (r : R) (P : R → Prop), Inv X pins σ H s → Vals [x] us → Same F H → RV X.K B F H r x → w r P →
    (∀ t v F' H', P t → Step F H F' H' → Same F' H' → RV X.K H F' H' t v → Q v H') → wpAny (model X.prog X.w) X.A (call f us) (EP X pins σ Q) X.xe s) : CallR X f (rC X.K (w1 w)) := by
  intro pins s σ H vs us Q I r ⟨F, B, rs, P, fh, vr, hw, post⟩
  obtain ⟨r0, er, hw⟩ := w1_inv hw
  subst er
  obtain ⟨x, e0, vr'⟩ := rvs1 vr
  subst e0
  exact h pins s σ H x us Q F B r0 P I r fh vr' hw post
theorem call2 {f : Value} {w : R → R → (R → Prop) → Prop} (h : ∀ (pins : List (Addr × Obj)) (s : Shared) (σ : L2.St) (H : Hp) (x y : V) (us : List Value) (Q : VK) (F B : Hp) (r r' : R) (P : R → Prop), Inv X pins σ H s → Vals [x, y] us → Same F H → RV X.K B F H r x → RV X.K B F H r' y → w r r' P →
    (∀ t v F' H', P t → Step F H F' H' → Same F' H' → RV X.K H F' H' t v → Q v H') → wpAny (model X.prog X.w) X.A (call f us) (EP X pins σ Q) X.xe s) : CallR X f (rC X.K (w2 w)) := by
  intro pins s σ H vs us Q I r ⟨F, B, rs, P, fh, vr, hw, post⟩
  obtain ⟨r0, r1, er, hw⟩ := w2_inv hw
  subst er
  obtain ⟨x, y, e0, vr1, vr2⟩ := rvs2 vr
  subst e0
  exact h pins s σ H x y us Q F B r0 r1 P I r fh vr1 vr2 hw post
theorem bi_len : CallR X (.builtin "len") (rC X.K (w1 wLen)) := call1 fun pins s σ H x us Q F B r0 P I r fh vr w post => by
  unfold wLen at w
  split at w
  · rename_i ds e
    obtain ⟨a, xs, e1, h1, h2⟩ := rv_list fh vr e
    subst e1
    refine call_len_seq pins s σ H _ us Q I r ⟨a, xs, rfl, .inl (.inl h1), ?_⟩
    rw [dpa_len h2]
    exact post _ _ F H w Step.refl fh (Dq.int _)
  · rename_i ds e
    obtain ⟨a, xs, e1, h1, h2⟩ := rv_tup vr e
    subst e1
    refine call_len_seq pins s σ H _ us Q I r ⟨a, xs, rfl, .inr (SqT.mono fh h1), ?_⟩
    rw [dpa_len h2]
    exact post _ _ F H w Step.refl fh (Dq.int _)
  · rename_i z e
    have e1 := rv_str vr e
    subst e1
    exact call_len_str pins s σ H _ us Q I r ⟨z, rfl, w.1, post _ _ F H w.2 Step.refl fh (Dq.int _)⟩
  · exact w.elim
theorem bi_abs : CallR X (.builtin "abs") (rC X.K (w1 wAbs)) := call1 fun pins s σ H x us Q F B r0 P I r fh vr w post => by
  unfold wAbs at w
  split at w
  · have e := rv_int vr
    subst e
    exact call_abs pins s σ H _ us Q I r ⟨_, rfl, post _ _ F H w Step.refl fh (Dq.int _)⟩
  · exact w.elim
theorem bi_max1 (hc : X.calm = true) : CallR X (.builtin "max") (rC X.K (w1 wMax1)) := call1 fun pins s σ H x us Q F B r0 P I r fh vr w post => by
  obtain ⟨ns, e, hl, w⟩ := w
  obtain ⟨a, e1, h1⟩ := rv_ints fh vr e
  subst e1
  exact cr_max hc pins s σ H _ us Q I r ⟨a, ns, rfl, h1, hl, fun m h2 h3 => post _ _ F H (w m h2 h3) Step.refl fh (Dq.int _)⟩
theorem bi_min1 (hc : X.calm = true) : CallR X (.builtin "min") (rC X.K (w1 wMin1)) := call1 fun pins s σ H x us Q F B r0 P I r fh vr w post => by
  obtain ⟨ns, e, hl, w⟩ := w
  obtain ⟨a, e1, h1⟩ := rv_ints fh vr e
  subst e1
  exact cr_min hc pins s σ H _ us Q I r ⟨a, ns, rfl, h1, hl, fun m h2 h3 => post _ _ F H (w m h2 h3) Step.refl fh (Dq.int _)⟩
theorem bi_sum1 (hc : X.calm = true) : CallR X (.builtin "sum") (rC X.K (w1 wSum1)) := call1 fun pins s σ H x us Q F B r0 P I r fh vr w post => by
  obtain ⟨ns, e, w⟩ := w
  obtain ⟨a, e1, h1⟩ := rv_ints fh vr e
  subst e1
  exact cr_sum hc pins s σ H _ us Q I r ⟨a, ns, rfl, h1, post _ _ F H w Step.refl fh (Dq.int _)⟩
theorem bi_all1 (hc : X.calm = true) : CallR X (.builtin "all") (rC X.K (w1 wAll1)) := call1 fun pins s σ H x us Q F B r0 P I r fh vr w post => by
  obtain ⟨ns, e, w⟩ := w
  obtain ⟨a, e1, h1⟩ := rv_bls fh vr e
  subst e1
  exact cr_all hc pins s σ H _ us Q I r ⟨a, ns, rfl, h1, post _ _ F H w Step.refl fh (Dq.bl _)⟩
theorem bi_any1 (hc : X.calm = true) : CallR X (.builtin "any") (rC X.K (w1 wAny1)) := call1 fun pins s σ H x us Q F B r0 P I r fh vr w post => by
  obtain ⟨ns, e, w⟩ := w
  obtain ⟨a, e1, h1⟩ := rv_bls fh vr e
  subst e1
  exact cr_any hc pins s σ H _ us Q I r ⟨a, ns, rfl, h1, post _ _ F H w Step.refl fh (Dq.bl _)⟩
theorem bi_max2 (hc : X.calm = true) : CallR X (.builtin "max") (rC X.K (w2 (wII fun i j => if j > i then j else i))) := call2 fun pins s σ H x y us Q F B r0 r1 P I r fh vr vr' w post => by
  unfold wII at w
  split at w
  · have e := rv_int vr
    have e' := rv_int vr'
    subst e e'
    exact call_max2 hc pins s σ H _ us Q I r ⟨_, _, rfl, post _ _ F H w Step.refl fh (Dq.int _)⟩
  · exact w.elim
theorem bi_min2 (hc : X.calm = true) : CallR X (.builtin "min") (rC X.K (w2 (wII fun i j => if j < i then j else i))) := call2 fun pins s σ H x y us Q F B r0 r1 P I r fh vr vr' w post => by
  unfold wII at w
  split at w
  · have e := rv_int vr
    have e' := rv_int vr'
    subst e e'
    exact call_min2 hc pins s σ H _ us Q I r ⟨_, _, rfl, post _ _ F H w Step.refl fh (Dq.int _)⟩
  · exact w.elim
theorem bi_list1 : CallR X (.type "list") (rC X.K (w1 wList1)) := call1 fun pins s σ H x us Q F B r0 P I r fh vr w post => by
  unfold wList1 at w
  split at w
  · rename_i ds e
    obtain ⟨a, xs, e1, h1, h2⟩ := rv_list fh vr e
    subst e1
    exact call_list_of pins s σ H _ us Q I r ⟨a, xs, rfl, .inl (.inl h1), fun p hp => post _ _ F _ w (Step.own fh hp) (same_own fh hp) (rv_new fh hp h2)⟩
  · rename_i ds e
    obtain ⟨a, xs, e1, h1, h2⟩ := rv_tup vr e
    subst e1
    exact call_list_of pins s σ H _ us Q I r ⟨a, xs, rfl, .inr (SqT.mono fh h1), fun p hp => post _ _ F _ w (Step.own fh hp) (same_own fh hp) (rv_new fh hp h2)⟩
  · exact w.elim
theorem bi_tup1 : CallR X (.type "tuple") (rC X.K (w1 wTup1)) := call1 fun pins s σ H x us Q F B r0 P I r fh vr w post => by
  unfold wTup1 at w
  split at w
  · rename_i ds e
    obtain ⟨a, xs, e1, h1, h2⟩ := rv_list fh vr e
    subst e1
    exact call_tuple_of pins s σ H _ us Q I r ⟨a, xs, rfl, .inl ⟨.inl h1, fun p hp => post _ _ _ _ w (Step.new fh hp) (same_new fh) (Dq.tup (.inl (.inl upd_same)) (dpa_mono (same_upd (Same.free fh hp)) h2))⟩⟩
  · rename_i ds e
    obtain ⟨a, xs, e1, h1, h2⟩ := rv_tup vr e
    subst e1
    exact call_tuple_of pins s σ H _ us Q I r ⟨a, xs, rfl, .inr ⟨SqT.mono fh h1, post _ _ F H w Step.refl fh (Dq.tup h1 h2)⟩⟩
  · exact w.elim
theorem bi_int1 : CallR X (.type "int") (rC X.K (w1 wInt1)) := call1 fun pins s σ H x us Q F B r0 P I r fh vr w post => by
  unfold wInt1 at w
  split at w
  · have e := rv_int vr
    subst e
    exact call_int1 pins s σ H _ us Q I r (.inl ⟨_, rfl, post _ _ F H w Step.refl fh (Dq.int _)⟩)
  · have e := rv_bool vr
    subst e
    exact call_int1 pins s σ H _ us Q I r (.inr ⟨_, rfl, post _ _ F H w Step.refl fh (Dq.int _)⟩)
  · exact w.elim
theorem bi_str1 : CallR X (.type "str") (rC X.K (w1 wStr1)) := call1 fun pins s σ H x us Q F B r0 P I r fh vr w post => by
  unfold wStr1 at w
  split at w
  · have e := rv_int vr
    subst e
    exact call_str_int pins s σ H _ us Q I r ⟨_, rfl, w.1, post _ _ F H w.2 Step.refl fh (Dq.str _)⟩
  · exact w.elim
theorem bi_all (b : Bi) (hc : X.calm = true) : (bIsTy b = true ∧ CallR X (.type (bname b)) (rC X.K (wBi b)) ∧ bootBuiltins (Str.ofString (bname b)) = some (.type (bname b))) ∨
    (bIsTy b = false ∧ CallR X (.builtin (bname b)) (rC X.K (wBi b)) ∧ bootBuiltins (Str.ofString (bname b)) = some (.builtin (bname b))) := by
  cases b with
  | len => exact .inr ⟨rfl, bi_len, PySem.boot_len⟩
  | abs => exact .inr ⟨rfl, bi_abs, PyProof.Rows.boot_abs⟩
  | max1 => exact .inr ⟨rfl, bi_max1 hc, PyProof.Rows.boot_max⟩
  | min1 => exact .inr ⟨rfl, bi_min1 hc, PyProof.Rows.boot_min⟩
  | max2 => exact .inr ⟨rfl, bi_max2 hc, PyProof.Rows.boot_max⟩
  | min2 => exact .inr ⟨rfl, bi_min2 hc, PyProof.Rows.boot_min⟩
  | sum1 => exact .inr ⟨rfl, bi_sum1 hc, PyProof.Rows.boot_sum⟩
  | all1 => exact .inr ⟨rfl, bi_all1 hc, PyProof.Rows.boot_all⟩
  | any1 => exact .inr ⟨rfl, bi_any1 hc, PyProof.Rows.boot_any⟩
  | list1 => exact .inl ⟨rfl, bi_list1, PyProof.Rows.boot_list⟩
  | tuple1 => exact .inl ⟨rfl, bi_tup1, PyProof.Rows.boot_tuple⟩
  | int1 => exact .inl ⟨rfl, bi_int1, PyProof.Rows.boot_int⟩
  | str1 => exact .inl ⟨rfl, bi_str1, PyProof.Rows.boot_str⟩
theorem bname_ne (b : Bi) : Str.ofString (bname b) ≠ "__name__" := by cases b <;> decide
theorem pi_seq {tg l : Expr} {tl : TE} (hl : PE X l tl) : PI X tg l (fun σ H R => tl σ H fun x H1 => ∃ a, x = .ref a ∧ ((∃ xs, SqL X.K H1 a xs ∧ (xs.length ≤ sizeLine → R (Itl X.K a) H1)) ∨ ∃ xs, SqT X.K H1 a xs ∧ (xs.length ≤ sizeLine → R (Itt X.K a) H1))) := by
  refine ⟨fun pins s σ H R I h => ?_⟩
  refine thn (hl.run pins s σ H _ I h) fun v s1 ⟨x, H1, I1, r1, q1⟩ => ?_
  obtain ⟨a, e, q⟩ := q1
  subst e
  cases r1
  rcases q with ⟨xs, hq, q⟩ | ⟨xs, hq, q⟩
  · obtain ⟨its, rv, p, hz⟩ := I1.list hq
    have q := q hz
    refine wpAny_pyIter_list p.isList ?_
    refine ⟨s1.heap.objs.size, [s1.heap.objs.size], _, _, H1, rfl, I1.kept (t' := s1.toks) fun b o e => Heap.get?_push_of_some _ e, turn_list a _, ⟨_, Heap.get?_push_size _ rfl, rfl, rfl⟩, fun b hb => ?_, q⟩
    have e : b = s1.heap.objs.size := by simpa using hb
    subst e
    exact I1.fpOk (Nat.le_refl _) (I1.hok.fresh (Nat.le_refl _))
  · obtain ⟨its, rv, p, hz⟩ := I1.tuple hq
    have q := q hz
    refine wpAny_pyIter_tuple (show s1.heap.IsTuple a its.toArray from p) ?_
    refine ⟨s1.heap.objs.size, [s1.heap.objs.size], _, _, H1, rfl, I1.kept (t' := s1.toks) fun b o e => Heap.get?_push_of_some _ e, turn_tuple a _, ⟨_, Heap.get?_push_size _ rfl, rfl, rfl⟩, fun b hb => ?_, q⟩
    have e : b = s1.heap.objs.size := by simpa using hb
    subst e
    exact I1.fpOk (Nat.le_refl _) (I1.hok.fresh (Nat.le_refl _))
theorem rd_same {a : Addr} {xs : List V} {F H : Hp} (s : Same F H) (h : Rd F a (.lst xs)) : Rd H a (.lst xs) := Rd.mono s h
theorem jseq_list {a : Addr} {xs : List V} {ds : List D} (hq : SqL K F a xs) (hd : DqAll K F xs ds) : JSeq K (Itl K a) false F H ds := fun F2 H2 s1 s2 _ => by
  have q2 : SqL K H2 a xs := Same.seq s2 (Same.seq s1 hq)
  refine ⟨fun i d e => ?_, ⟨xs, q2, by rw [dpa_len hd]; exact Nat.le_refl _⟩⟩
  obtain ⟨v, h1, h2⟩ := dpa_get hd e
  refine ⟨⟨xs, v, q2, h1⟩, fun x H3 y => ?_⟩
  obtain ⟨e1, y⟩ := y
  subst e1
  have e2 := y xs q2
  rw [h1] at e2
  cases e2
  exact ⟨F2, Step.refl, s2, dp_mono s1 h2⟩
theorem jseq_listB {a : Addr} {xs : List V} {ds : List D} (hq : H a = some (.lst xs)) (hd : DqAll K F xs ds) : JSeq K (Itl K a) true F H ds := fun F2 H2 s1 s2 s3 => by
  have q2 : SqL K H2 a xs := SqL.of (s3 rfl a _ hq)
  refine ⟨fun i d e => ?_, ⟨xs, q2, by rw [dpa_len hd]; exact Nat.le_refl _⟩⟩
  obtain ⟨v, h1, h2⟩ := dpa_get hd e
  refine ⟨⟨xs, v, q2, h1⟩, fun x H3 y => ?_⟩
  obtain ⟨e1, y⟩ := y
  subst e1
  have e2 := y xs q2
  rw [h1] at e2
  cases e2
  exact ⟨F2, Step.refl, s2, dp_mono s1 h2⟩
theorem jseq_tup {a : Addr} {xs : List V} {ds : List D} (hq : SqT K F a xs) (hd : DqAll K F xs ds) : JSeq K (Itt K a) false F H ds := fun F2 H2 s1 s2 _ => by
  have q2 : SqT K H2 a xs := SqT.mono s2 (SqT.mono s1 hq)
  refine ⟨fun i d e => ?_, ⟨xs, q2, by rw [dpa_len hd]; exact Nat.le_refl _⟩⟩
  obtain ⟨v, h1, h2⟩ := dpa_get hd e
  refine ⟨⟨xs, v, q2, h1⟩, fun x H3 y => ?_⟩
  obtain ⟨e1, y⟩ := y
  subst e1
  have e2 := y xs q2
  rw [h1] at e2
  cases e2
  exact ⟨F2, Step.refl, s2, dp_mono s1 h2⟩
theorem rng_len (lo : Int) (n : Nat) : (rngD lo n).length = n := by simp [rngD]
theorem jseq_rng (lo : Int) (n : Nat) : JSeq K (Itr lo n) false F H (rngD lo n) := fun F2 H2 s1 s2 _ => by
  refine ⟨fun i d e => ?_, by show n ≤ _; rw [rng_len]; exact Nat.le_refl _⟩
  have hi : i < n := by
    have := (List.getElem?_eq_some_iff.mp e).1
    rwa [rng_len] at this
  have e1 : d = .int (lo + i) := by
    unfold rngD at e
    rw [List.getElem?_map, List.getElem?_range hi] at e
    exact (Option.some.inj e).symm
  subst e1
  refine ⟨hi, fun x H3 y => ?_⟩
  obtain ⟨e1, e2⟩ := y
  subst e1 e2
  exact ⟨F2, Step.refl, s2, Dq.int _⟩
theorem jseq_rev {a : Addr} {xs : List V} {ds : List D} (hq : SqL K F a xs) (hd : DqAll K F xs ds) : JSeq K (Itv K a xs.length) false F H ds.reverse := fun F2 H2 s1 s2 _ => by
  have q2 : SqL K H2 a xs := Same.seq s2 (Same.seq s1 hq)
  have hl := dpa_len hd
  refine ⟨fun i d e => ?_, by show xs.length ≤ _; rw [List.length_reverse, hl]; exact Nat.le_refl _⟩
  have hi : i < ds.length := by
    have := (List.getElem?_eq_some_iff.mp e).1
    rwa [List.length_reverse] at this
  rw [List.getElem?_reverse hi] at e
  obtain ⟨v, h1, h2⟩ := dpa_get hd e
  rw [← hl] at h1
  refine ⟨⟨by omega, xs, v, q2, h1⟩, fun x H3 y => ?_⟩
  obtain ⟨e1, y⟩ := y
  subst e1
  have e2 := y xs q2
  rw [h1] at e2
  cases e2
  exact ⟨F2, Step.refl, s2, dp_mono s1 h2⟩
theorem jseq_revB {a : Addr} {xs : List V} {ds : List D} (hq : H a = some (.lst xs)) (hd : DqAll K F xs ds) : JSeq K (Itv K a xs.length) true F H ds.reverse := fun F2 H2 s1 s2 s3 => by
  have q2 : SqL K H2 a xs := SqL.of (s3 rfl a _ hq)
  have hl := dpa_len hd
  refine ⟨fun i d e => ?_, by show xs.length ≤ _; rw [List.length_reverse, hl]; exact Nat.le_refl _⟩
  have hi : i < ds.length := by
    have := (List.getElem?_eq_some_iff.mp e).1
    rwa [List.length_reverse] at this
  rw [List.getElem?_reverse hi] at e
  obtain ⟨v, h1, h2⟩ := dpa_get hd e
  rw [← hl] at h1
  refine ⟨⟨by omega, xs, v, q2, h1⟩, fun x H3 y => ?_⟩
  obtain ⟨e1, y⟩ := y
  subst e1
  have e2 := y xs q2
  rw [h1] at e2
  cases e2
  exact ⟨F2, Step.refl, s2, dp_mono s1 h2⟩
theorem jseq_revG {a : Addr} {xs : List V} {ds : List D} {b : Bool} (hd : DqAll K F xs ds) (hq : ∀ F2 H2, Same F F2 → Same F2 H2 → (b = true → Same H H2) → SqL K H2 a xs) : JSeq K (Itv K a xs.length) b F H ds.reverse := fun F2 H2 s1 s2 s3 => by
  have q2 : SqL K H2 a xs := hq F2 H2 s1 s2 s3
  have hl := dpa_len hd
  refine ⟨fun i d e => ?_, by show xs.length ≤ _; rw [List.length_reverse, hl]; exact Nat.le_refl _⟩
  have hi : i < ds.length := by
    have := (List.getElem?_eq_some_iff.mp e).1
    rwa [List.length_reverse] at this
  rw [List.getElem?_reverse hi] at e
  obtain ⟨v, h1, h2⟩ := dpa_get hd e
  rw [← hl] at h1
  refine ⟨⟨by omega, xs, v, q2, h1⟩, fun x H3 y => ?_⟩
  obtain ⟨e1, y⟩ := y
  subst e1
  have e2 := y xs q2
  rw [h1] at e2
  cases e2
  exact ⟨F2, Step.refl, s2, dp_mono s1 h2⟩
theorem jseq_revT {a : Addr} {xs : List V} {ds : List D} (hq : SqT K F a xs) (hd : DqAll K F xs ds) : JSeq K (ItvT K a xs.length) false F H ds.reverse := fun F2 H2 s1 s2 _ => by
  have q2 : SqT K H2 a xs := SqT.mono s2 (SqT.mono s1 hq)
  have hl := dpa_len hd
  refine ⟨fun i d e => ?_, by show xs.length ≤ _; rw [List.length_reverse, hl]; exact Nat.le_refl _⟩
  have hi : i < ds.length := by
    have := (List.getElem?_eq_some_iff.mp e).1
    rwa [List.length_reverse] at this
  rw [List.getElem?_reverse hi] at e
  obtain ⟨v, h1, h2⟩ := dpa_get hd e
  rw [← hl] at h1
  refine ⟨⟨by omega, xs, v, q2, h1⟩, fun x H3 y => ?_⟩
  obtain ⟨e1, y⟩ := y
  subst e1
  have e2 := y xs q2
  rw [h1] at e2
  cases e2
  exact ⟨F2, Step.refl, s2, dp_mono s1 h2⟩
theorem pair_new {F H : Hp} {p : Addr} {x y : V} {d e : D} (fh : Same F H) (hp : H p = none) (h1 : Dq K F x d) (h2 : Dq K F y e) :
    ∃ F3, Step F H F3 (upd H p (.tup [x, y])) ∧ Same F3 (upd H p (.tup [x, y])) ∧ Dq K F3 (.ref p) (.tuple [d, e]) :=
  ⟨_, Step.new fh hp, same_new fh, Dq.tup (.inl (.inl upd_same)) (dpa_mono (same_upd (Same.free fh hp)) (.cons h1 (.cons h2 .nil)))⟩
theorem enum_get {ds : List D} {i : Nat} {e : D} (h : (enumD ds)[i]? = some e) : ∃ d, ds[i]? = some d ∧ e = .tuple [.int i, d] := by
  unfold enumD at h
  rw [List.getElem?_zipWith] at h
  cases q : ds[i]? with
  | none => rw [q] at h; cases q2 : (List.range ds.length)[i]? <;> rw [q2] at h <;> cases h
  | some d =>
    have hi : i < ds.length := (List.getElem?_eq_some_iff.mp q).1
    rw [q, List.getElem?_range hi] at h
    exact ⟨d, rfl, (Option.some.inj h).symm⟩
theorem enum_len (ds : List D) : (enumD ds).length = ds.length := by simp [enumD]
theorem jseq_enum {a : Addr} {xs : List V} {ds : List D} {b : Bool} (hd : DqAll K F xs ds) (hq : ∀ F2 H2, Same F F2 → Same F2 H2 → (b = true → Same H H2) → SqL K H2 a xs) : JSeq K (Ite K a) b F H (enumD ds) := fun F2 H2 s1 s2 s3 => by
  have q2 : SqL K H2 a xs := hq F2 H2 s1 s2 s3
  refine ⟨fun i e he => ?_, ⟨xs, q2, by rw [dpa_len hd, enum_len]; exact Nat.le_refl _⟩⟩
  obtain ⟨d, e1, e2⟩ := enum_get he
  subst e2
  obtain ⟨v, h1, h2⟩ := dpa_get hd e1
  refine ⟨⟨xs, v, q2, h1⟩, fun x H3 y => ?_⟩
  obtain ⟨p, x', e3, hp, e4, y⟩ := y
  have e5 := y xs q2
  rw [h1] at e5
  cases e5
  subst e3 e4
  exact pair_new s2 hp (Dq.int _) (dp_mono s1 h2)
theorem zip_get {ds es : List D} {i : Nat} {e : D} (h : (zipD ds es)[i]? = some e) : ∃ d d', ds[i]? = some d ∧ es[i]? = some d' ∧ e = .tuple [d, d'] := by
  unfold zipD at h
  rw [List.getElem?_zipWith] at h
  cases q : ds[i]? with
  | none => rw [q] at h; cases h
  | some d =>
    cases q2 : es[i]? with
    | none => rw [q, q2] at h; cases h
    | some d' =>
      rw [q, q2] at h
      exact ⟨d, d', rfl, rfl, (Option.some.inj h).symm⟩
theorem zip_len (ds es : List D) : (zipD ds es).length = min ds.length es.length := by simp [zipD]
theorem jseq_zip {a a' : Addr} {xs ys : List V} {ds es : List D} {b : Bool} (hd : DqAll K F xs ds) (he : DqAll K F ys es) (hq : ∀ F2 H2, Same F F2 → Same F2 H2 → (b = true → Same H H2) → SqL K H2 a xs ∧ SqL K H2 a' ys) : JSeq K (Itz K a a') b F H (zipD ds es) := fun F2 H2 s1 s2 s3 => by
  obtain ⟨q2, q3⟩ := hq F2 H2 s1 s2 s3
  refine ⟨fun i e hz => ?_, ⟨xs, ys, q2, q3, by rw [dpa_len hd, dpa_len he, zip_len]; omega⟩⟩
  obtain ⟨d, d', e1, e1', e2⟩ := zip_get hz
  subst e2
  obtain ⟨v, h1, h2⟩ := dpa_get hd e1
  obtain ⟨v', g1, g2⟩ := dpa_get he e1'
  refine ⟨⟨xs, ys, v, v', q2, q3, h1, g1⟩, fun x H3 y => ?_⟩
  obtain ⟨p, x', y', e3, hp, e4, y1, y2⟩ := y
  have e5 := y1 xs q2
  have e6 := y2 ys q3
  rw [h1] at e5
  rw [g1] at e6
  cases e5
  cases e6
  subst e3 e4
  exact pair_new s2 hp (dp_mono s1 h2) (dp_mono s1 g2)
theorem jseq_zipT {a a' : Addr} {xs ys : List V} {ds es : List D} (hd : DqAll K F xs ds) (he : DqAll K F ys es) (hq : SqT K F a xs) (hq' : SqT K F a' ys) : JSeq K (ItzT K a a') false F H (zipD ds es) := fun F2 H2 s1 s2 s3 => by
  have q2 : SqT K H2 a xs := SqT.mono s2 (SqT.mono s1 hq)
  have q3 : SqT K H2 a' ys := SqT.mono s2 (SqT.mono s1 hq')
  refine ⟨fun i e hz => ?_, ⟨xs, ys, q2, q3, by rw [dpa_len hd, dpa_len he, zip_len]; omega⟩⟩
  obtain ⟨d, d', e1, e1', e2⟩ := zip_get hz
  subst e2
  obtain ⟨v, h1, h2⟩ := dpa_get hd e1
  obtain ⟨v', g1, g2⟩ := dpa_get he e1'
  refine ⟨⟨xs, ys, v, v', q2, q3, h1, g1⟩, fun x H3 y => ?_⟩
  obtain ⟨p, x', y', e3, hp, e4, y1, y2⟩ := y
  have e5 := y1 xs q2
  have e6 := y2 ys q3
  rw [h1] at e5
  rw [g1] at e6
  cases e5
  cases e6
  subst e3 e4
  exact pair_new s2 hp (dp_mono s1 h2) (dp_mono s1 g2)
end
end DL
end
section
set_option maxRecDepth 100000
set_option maxHeartbeats 4000000
namespace DL
open PySem PySem.Spec PyProof.Rows L2 RZ RT
section
variable {X : Cx} {K : PySem.W.Frag} {T : Tb} {G : Nat → DSp} {W : WX} {F0 H0 F H B : Hp} {ρ : En} {σ : L2.St} {n : Nat} {cm : Bool}
theorem wTru_inv {r : R} {k : Bool → Prop} (h : wTru r k) : ∃ b, r = .d (.bool b) ∧ k b := by
  unfold wTru at h
  split at h
  · exact ⟨_, rfl, h⟩
  · exact h.elim
theorem isNone_rv {r : R} {x : V} (h : RV K B F H r x) : decide (x = V.non) = isNone (look r) := by
  cases r with
  | d d =>
    cases (show Dq K F x d from h) with
    | non => rfl
    | _ => rfl
  | l ds fr =>
    obtain ⟨a, xs, e, _⟩ := h
    subst e
    rfl
theorem Gl_of {x : Str} (h : X.env.scope.names.lookup x = some .globalImplicit) : Gl X x := h
theorem pos_call {T : Tb} {N : List Str} {sc : Scope} {cm : Bool} {es : Es} {x : Expr} {xs : List Expr} (h : ckEs T N cm sc es (x :: xs) = true) (env : Env) (pos : Pos) : plainX x = true ∧ (backTo pos (starEach xs env)).any (·.1) = false := by
  cases es with
  | nil => unfold ckEs at h; cases h
  | cons e es =>
    unfold ckEs at h
    obtain ⟨h1, h2⟩ := ba h
    exact ⟨(ba h1).1, ckEs_plain h2 env pos⟩
theorem ty_ok {t : String} (h : ["int", "bool", "str", "tuple", "list"].contains t = true) : bootBuiltins (Str.ofString t) = some (.type t) ∧ Str.ofString t ≠ "__name__" ∧ Str.ofString t ∈ ["isinstance", "range", "enumerate", "zip", "reversed", "int", "bool", "str", "tuple", "list"].map Str.ofString := by
  have e : t = "int" ∨ t = "bool" ∨ t = "str" ∨ t = "tuple" ∨ t = "list" := by simpa using h
  rcases e with e | e | e | e | e <;> subst e
  · exact ⟨PyProof.Rows.boot_int, by decide, by decide⟩
  · exact ⟨PyProof.Rows.boot_bool, by decide, by decide⟩
  · exact ⟨PyProof.Rows.boot_str, by decide, by decide⟩
  · exact ⟨PyProof.Rows.boot_tuple, by decide, by decide⟩
  · exact ⟨PyProof.Rows.boot_list, by decide, by decide⟩
theorem tyX_of {x : V} {d : D} (h : Dq K H x d) : TyX K H x (.type (tyD d)) := by
  cases h with
  | non => exact .base .non
  | bl b => exact .base (.bl b)
  | int i => exact .base (.int i)
  | str z => exact .base (.str z)
  | lst h1 h2 =>
    rcases h1 with h1 | ⟨o, h1⟩
    · exact .base (.lst h1)
    · exact .base (.frz h1)
  | tup h1 h2 =>
    rcases h1 with (h1 | ⟨o, h1⟩) | ⟨o, its, n, h1, h2, h3⟩
    · exact .base (.tup h1)
    · exact .fTuple h1
    · exact .kTuple h1 h2
theorem wipe_set {σ : L2.St} {i : Nat} {v : Option V} : ∀ {vs : List Nat}, i ∈ vs → wipe (σ.set i v) vs = wipe σ vs
  | [], h => by cases h
  | w :: vs, h => by
    unfold wipe
    by_cases e : i ∈ vs
    · rw [wipe_set e]
    · have e2 : i = w := by
        rcases List.mem_cons.mp h with z | z
        · exact z
        · exact absurd z e
      subst e2
      have go : ∀ ws : List Nat, i ∉ ws → wipe (σ.set i v) ws = (wipe σ ws).set i v := by
        intro ws
        induction ws with
        | nil => intro _; rfl
        | cons w ws ih =>
          intro hn
          unfold wipe
          rw [ih fun z => hn (List.mem_cons_of_mem _ z), List.set_comm _ _ (fun z => hn (by rw [z]; exact List.mem_cons_self))]
      rw [go vs e, List.set_set]
theorem fnc_of {x : Str} (g : ∀ x, X.env.scope.names.lookup x = some .cell → X.fn x = true) (h : isLoc (X.env.scope.names.lookup x) = true) : Loc X.env.scope x ∧ (X.fn x = true ∨ X.env.scope.names.lookup x = some .local) := by
  cases q : X.env.scope.names.lookup x with
  | none => rw [q] at h; cases h
  | some k =>
    rw [q] at h
    cases k <;> first | exact ⟨.inl q, .inr q⟩ | exact ⟨.inr q, .inl (g x q)⟩ | exact ⟨.inl q, .inr rfl⟩ | exact ⟨.inr q, .inl (g x q)⟩ | cases h
def gT (K : PySem.W.Frag) : Tg → TG
  | .nm i => gName i
  | .tp is => gTup K is.length (is.foldr (fun i t => gCons (gName i) t) gNil)
theorem pgs_of {sc : Scope} (g : ∀ x, isLoc (sc.names.lookup x) = true → Loc X.env.scope x ∧ (X.fn x = true ∨ X.env.scope.names.lookup x = some .local)) (nd : X.N.Nodup) {ok : List Nat} : ∀ {is : List Nat} {es : List Expr}, es.length = is.length → ((es.zip is).all fun p => match p.1 with
      | .Name x _ => ckN X.N p.2 x && isLoc (sc.names.lookup x) && ok.contains p.2
      | _ => false) = true → PGs X es (is.foldr (fun i t => gCons (gName i) t) gNil) ∧ (assignEach es X.env).length = is.length ∧ (assignEach es X.env).findIdx? (·.1) = none
  | [], [], _, _ => ⟨pgs_nil, rfl, rfl⟩
  | [], _ :: _, h, _ => by simp at h
  | _ :: _, [], h, _ => by simp at h
  | i :: is, e :: es, h, c => by
    rw [List.zip_cons_cons, List.all_cons] at c
    obtain ⟨c1, c2⟩ := ba c
    obtain ⟨h1, h2, h3⟩ := pgs_of g nd (is := is) (es := es) (by simpa using h) c2
    cases e with
    | Name x pos =>
      have c1 : (ckN X.N i x && isLoc (sc.names.lookup x) && ok.contains i) = true := c1
      obtain ⟨c3, c4⟩ := ba c1
      obtain ⟨c5, c6⟩ := ba c3
      obtain ⟨l1, l2⟩ := g _ c6
      refine ⟨pgs_cons (pg_name nd (of_decide_eq_true c5) l1 l2) h1, ?_, ?_⟩
      · show (_ :: assignEach es X.env).length = _
        rw [List.length_cons, List.length_cons, h2]
      · show ((false, assign (.Name x pos) X.env) :: assignEach es X.env).findIdx? (·.1) = none
        rw [List.findIdx?_cons, h3] <;> rfl
    | _ => cases c1
theorem pg_of {sc : Scope} (g : ∀ x, isLoc (sc.names.lookup x) = true → Loc X.env.scope x ∧ (X.fn x = true ∨ X.env.scope.names.lookup x = some .local)) (nd : X.N.Nodup) (hc : X.calm = true) {ok : List Nat} {t : Tg} {e : Expr} (h : ckT X.N sc ok t e = true) : PG X e (gT X.K t) := by
  cases t with
  | nm i =>
    unfold ckT at h
    cases e with
    | Name x pos =>
      have h : (ckN X.N i x && isLoc (sc.names.lookup x) && ok.contains i) = true := h
      obtain ⟨c3, c4⟩ := ba h
      obtain ⟨c5, c6⟩ := ba c3
      obtain ⟨l1, l2⟩ := g _ c6
      exact pg_name nd (of_decide_eq_true c5) l1 l2
    | _ => cases h
  | tp is =>
    unfold ckT at h
    cases e with
    | Tuple es k pos =>
      obtain ⟨c1, c2⟩ := ba h
      obtain ⟨h1, h2, h3⟩ := pgs_of g nd (of_decide_eq_true c1) c2
      exact pg_tup hc h1 h2 h3
    | _ => cases h
theorem gT_all (sr : SR K F0 H0 F ρ σ H) : ∀ {is : List Nat} {ds : List D} {xs : List V} {ρ' : En} {Q : L2.St → Hp → Prop}, DqAll K F xs ds → setAll ρ is ds = some ρ' → SR K F0 H0 F ρ σ H → (∀ σ', SR K F0 H0 F ρ' σ' H → (∀ vs, (∀ i ∈ is, i ∈ vs) → wipe σ' vs = wipe σ vs) → Q σ' H) →
    (is.foldr (fun i t => gCons (gName i) t) gNil) xs σ H Q := by
  intro is
  induction is generalizing ρ σ with
  | nil =>
    intro ds xs ρ' Q hd e s k
    cases ds with
    | nil =>
      cases hd
      cases e
      exact ⟨rfl, k σ s fun _ _ => rfl⟩
    | cons d ds => cases e
  | cons i is ih =>
    intro ds xs ρ' Q hd e s k
    cases ds with
    | nil => cases e
    | cons d ds =>
      cases hd with
      | cons h1 h2 =>
        rename_i v vs
        refine ⟨v, vs, rfl, ?_⟩
        show (is.foldr (fun i t => gCons (gName i) t) gNil) vs (σ.set i (some v)) H Q
        refine ih (s.setD h1 i) h2 e (s.setD h1 i) fun σ' s' w => k σ' s' fun ws hw => ?_
        rw [w ws fun j hj => hw j (List.mem_cons_of_mem _ hj)]
        exact wipe_set (hw i List.mem_cons_self)
theorem gT_ok (sr : SR K F0 H0 F ρ σ H) {t : Tg} {x : V} {d : D} (hx : Dq K F x d) {k : En → Prop} (h : stT t d ρ k) {Q : L2.St → Hp → Prop}
    (q : ∀ ρ' σ', SR K F0 H0 F ρ' σ' H → k ρ' → (∀ vs, (∀ i ∈ t.slots, i ∈ vs) → wipe σ' vs = wipe σ vs) → Q σ' H) : gT K t x σ H Q := by
  cases t with
  | nm i => exact q _ _ (sr.setD hx i) h fun vs hv => wipe_set (hv i (List.mem_singleton.mpr rfl))
  | tp is =>
    unfold stT at h
    cases hx with
    | tup h1 h2 =>
      rename_i a xs ds
      have h : (match setAll ρ is ds with
        | some ρ' => k ρ'
        | none => False) := h
      cases e : setAll ρ is ds with
      | none => rw [e] at h; exact h.elim
      | some ρ' =>
        rw [e] at h
        have hl : ∀ {is : List Nat} {ds : List D} {ρ ρ' : En}, setAll ρ is ds = some ρ' → is.length = ds.length := by
          intro is
          induction is with
          | nil => intro ds ρ ρ' e; cases ds with
            | nil => rfl
            | cons _ _ => cases e
          | cons i is ih => intro ds ρ ρ' e; cases ds with
            | nil => cases e
            | cons d ds => rw [List.length_cons, List.length_cons, ih (ds := ds) e]
        refine ⟨a, xs, rfl, SqT.mono sr.fh h1, by rw [dpa_len h2, hl e], ?_⟩
        exact gT_all sr h2 e sr fun σ' s' w => q ρ' σ' s' h w
    | _ => exact h.elim
theorem ckT_own {N : List Str} {sc : Scope} {ok : List Nat} {t : Tg} {e : Expr} (h : ckT N sc ok t e = true) : ∀ i ∈ t.slots, i ∈ ok := by
  cases t with
  | nm i =>
    unfold ckT at h
    cases e with
    | Name x pos =>
      have h : (ckN N i x && isLoc (sc.names.lookup x) && ok.contains i) = true := h
      intro j hj
      rw [List.mem_singleton.mp hj]
      simpa using (ba h).2
    | _ => cases h
  | tp is =>
    unfold ckT at h
    cases e with
    | Tuple es k pos =>
      obtain ⟨c1, c2⟩ := ba h
      have hl : es.length = is.length := of_decide_eq_true c1
      show ∀ i ∈ is, i ∈ ok
      clear h c1
      induction is generalizing es with
      | nil => intro i hi; cases hi
      | cons j is ih =>
        cases es with
        | nil => simp at hl
        | cons e es =>
          rw [List.zip_cons_cons, List.all_cons] at c2
          obtain ⟨d1, d2⟩ := ba c2
          intro i hi
          rcases List.mem_cons.mp hi with z | z
          · subst z
            cases e with
            | Name x pos =>
              have d1 : (ckN N i x && isLoc (sc.names.lookup x) && ok.contains i) = true := d1
              simpa using (ba d1).2
            | _ => cases d1
          · exact ih (es := es) d2 (by simpa using hl) i z
    | _ => cases h
end
end DL
end
section
set_option maxRecDepth 100000
set_option maxHeartbeats 4000000
namespace DL
open PySem PySem.Spec PyProof.Rows L2 RZ RT
section
variable {X : Cx} {K : PySem.W.Frag} {T : Tb} {G : Nat → DSp} {W : WX} {F0 H0 F H B F1 H1 Fc Hc F' H' : Hp} {ρ : En} {σ : L2.St} {n : Nat} {cm : Bool} {p : Addr} {acc : List V} {accD : List D}
theorem set_same {α : Type} {l : List (Option α)} {i : Nat} (h : ∀ x, l[i]? ≠ some (some x)) : l.set i none = l := by
  apply List.ext_getElem?
  intro j
  by_cases e : i = j
  · subst e
    rw [List.getElem?_set, if_pos rfl]
    cases q : l[i]? with
    | none =>
      have : ¬ i < l.length := fun z => by rw [List.getElem?_eq_getElem z] at q; cases q
      rw [if_neg this]
    | some v =>
      rw [if_pos (List.getElem?_eq_some_iff.mp q).1]
      cases v with
      | none => rfl
      | some x => exact absurd q (h x)
  · rw [List.getElem?_set_ne e]
theorem wipe_wipe (σ : L2.St) (vs : List Nat) : wipe (wipe σ vs) vs = wipe σ vs := by
  have go : ∀ ws : List Nat, (∀ w ∈ ws, w ∈ vs) → wipe (wipe σ vs) ws = wipe σ vs := by
    intro ws
    induction ws with
    | nil => intro _; rfl
    | cons w ws ih =>
      intro h
      show (wipe (wipe σ vs) ws).set w none = _
      rw [ih fun z hz => h z (List.mem_cons_of_mem _ hz)]
      exact set_same fun x z => (wipe_some z).2 (h w List.mem_cons_self)
  exact go vs fun _ h => h
structure LS (K : PySem.W.Frag) (F1 H1 Fc Hc : Hp) (p : Addr) (acc : List V) (accD : List D) : Prop where
  s : Step F1 H1 Fc Hc
  f : Same Fc Hc
  at_ : Hc p = some (.lst acc)
  off : Fc p = none
  d : DqAll K Fc acc accD
theorem LS.step (x : LS K F1 H1 Fc Hc p acc accD) (s : Step Fc Hc F' H') (f : Same F' H') : LS K F1 H1 F' H' p acc accD :=
  ⟨x.s.trans s, f, s.h _ _ x.at_, s.s p (ne_none_of x.at_) x.off, dpa_mono s.f x.d⟩
theorem LS.push (x : LS K F1 H1 Fc Hc p acc accD) (h1 : H1 p = none) {F2 : Hp} {y : V} {d : D} (e : Same Fc F2) (f : Same F2 Hc) (z : ∀ a, H1 a ≠ none → F1 a = none → F2 a = none) (zp : F2 p = none) (hy : Dq K F2 y d) :
    LS K F1 H1 F2 (upd Hc p (.lst (acc ++ [y]))) p (acc ++ [y]) (accD ++ [d]) :=
  ⟨⟨x.s.f.trans e, fun a o q => by rw [upd_ne (ne_of_none q h1)]; exact x.s.h a o q, z⟩, fun a o q => by rw [upd_ne (ne_of_none q zp)]; exact f a o q, upd_same, zp, dpa_app (dpa_mono e x.d) (.cons hy .nil)⟩
abbrev W0 : WX := fun _ _ _ _ => False
def tCd (K : PySem.W.Frag) (T : Tb) (G : Nat → DSp) : Es → TT
  | .nil => tYes
  | .cons e _ => tTest (tE K T W0 (wE G e))
theorem gx_blk (g : GX T G n cm W X) {s : Shared} {H : Hp} {scope : Scope} {C : Addr} {cl : List (Str × Addr)} {fp : List Addr} : GX T G n cm W0 (X.blk s H scope (compEnvC scope cl C X.env) fp) where
  room := g.room
  calm := g.calm
  hu := g.hu
  fns := fun f hf => let ⟨k, a, fd, ps, h1, h2, h3, h4, h5⟩ := (g.fns f hf).ex; ⟨k, a, fd, ps, h1, h2, h3, h4, h5⟩
  gl := g.gl
  bi := g.bi
  bo := g.bo
  tk := takes0
  nd := g.nd
theorem blk_loc {s : Shared} {H : Hp} {scope : Scope} {C : Addr} {cl : List (Str × Addr)} {fp : List Addr} : ∀ x, isLoc (scope.names.lookup x) = true →
    Loc (X.blk s H scope (compEnvC scope cl C X.env) fp).env.scope x ∧ ((X.blk s H scope (compEnvC scope cl C X.env) fp).fn x = true ∨ (X.blk s H scope (compEnvC scope cl C X.env) fp).env.scope.names.lookup x = some .local) := fun x h => by
  cases q : scope.names.lookup x with
  | none => rw [q] at h; cases h
  | some k =>
    rw [q] at h
    cases k with
    | «local» =>
      have e := lookup_relS_keep (sc := X.env.scope) (k := .local) (by decide) q
      exact ⟨.inl e, .inr e⟩
    | cell =>
      have e := lookup_relS_keep (sc := X.env.scope) (k := .cell) (by decide) q
      refine ⟨.inr e, .inl ?_⟩
      show (scope.names.lookup x == some .cell) = true
      rw [q]
      rfl
    | _ => cases h
theorem sLc {elt tg iter : Expr} {ifs : List Expr} {scope : Scope} {own : List (Str × Nat)} {pos : Pos} {e : E} {t : Tg} {it : It} {cd : Es} (g : GX T G n cm W X) (hc : X.calm = true) (hi : PI X tg iter (tI X.K T W (wI G it))) (ok : BlkOk X.N X.env.scope scope own)
    (hg : ∀ (s : Shared) (H : Hp) (C : Addr) (cl : List (Str × Addr)) (fp : List Addr), PG (X.blk s H scope (compEnvC scope cl C X.env) fp) tg (gT X.K t))
    (ht : ∀ (s : Shared) (H : Hp) (C : Addr) (cl : List (Str × Addr)) (fp : List Addr), PTs (X.blk s H scope (compEnvC scope cl C X.env) fp) ifs (tCd X.K T G cd))
    (he : ∀ (s : Shared) (H : Hp) (C : Addr) (cl : List (Str × Addr)) (fp : List Addr), PE (X.blk s H scope (compEnvC scope cl C X.env) fp) elt (tE X.K T W0 (wE G e)))
    (hs : ∀ x, foldedSetIterable iter X.env x = pure x) (ho : ∀ i ∈ t.slots, i ∈ own.map (·.2))
    {σ : L2.St} {H : Hp} {Q : VK} (h : tE X.K T W (wE G (.lc e t it cd own)) σ H Q) : tLc (tI X.K T W (wI G it)) (gT X.K t) (tCd X.K T G cd) (tE X.K T W0 (wE G e)) (own.map (·.2)) σ H Q := by
  obtain ⟨F0, H0, F, ρ, Ex, P, sx, h, post⟩ := h
  unfold wE at h
  refine ⟨F0, H0, F, ρ, Ex, _, sx, h, fun ds b J F1 H1 hl s1 f1 js hz p hp => ?_⟩
  refine ⟨fun i m Hc => m = ds.length - i ∧ i ≤ ds.length ∧ ∃ Fc acc accD, LS X.K F1 H1 Fc Hc p acc accD ∧ acc.length ≤ i ∧ lcLoop (stT t) (fun ρ2 k => wCond G cd ρ2 k) (fun ρ2 k => wE G e ρ2 (fun _ => False) k) (wip ρ (own.map (·.2))) (ds.drop i) accD P,
    ⟨ds.length, by simp, Nat.zero_le _, F1, [], [], ⟨Step.own f1 hp, same_own f1 hp, upd_same, Same.free f1 hp, .nil⟩, Nat.le_refl _, by simpa using hl⟩, ?_⟩
  rintro i m Hc ⟨rfl, hi2, Fc, acc, accD, ls, hal, hw⟩
  have j2 := js Fc Hc ls.s.f ls.f fun _ => ls.s.h
  by_cases hlt : i < ds.length
  · obtain ⟨d, hd⟩ : ∃ d, ds[i]? = some d := ⟨ds[i], List.getElem?_eq_getElem hlt⟩
    obtain ⟨go, yl⟩ := j2.1 i d hd
    have ed : ds.drop i = d :: ds.drop (i + 1) := by
      rw [List.drop_eq_getElem_cons hlt]
      rw [List.getElem?_eq_getElem hlt] at hd
      rw [Option.some.inj hd]
    rw [ed] at hw
    refine .inr ⟨go, fun H' => ∃ Fc acc accD, LS X.K F1 H1 Fc H' p acc accD ∧ acc.length ≤ i + 1 ∧ lcLoop (stT t) (fun ρ2 k => wCond G cd ρ2 k) (fun ρ2 k => wE G e ρ2 (fun _ => False) k) (wip ρ (own.map (·.2))) (ds.drop (i + 1)) accD P,
      fun H' q => ⟨_, by omega, rfl, by omega, q⟩, fun x H3 y => ?_⟩
    obtain ⟨F3, s3, f3, hx⟩ := yl x H3 y
    have ls3 := ls.step s3 f3
    have sr3 : SR X.K F0 H0 F3 (wip ρ (own.map (·.2))) (wipe σ (own.map (·.2))) H3 := ((sx.sr.step s1 f1).step ls3.s f3).wip _
    refine gT_ok sr3 hx hw fun ρ' σ' sr' hw' wv => ⟨by rw [wv _ ho, wipe_wipe], ?_⟩
    have sx' : SX X.K T W0 F0 H0 F3 ρ' σ' H3 (fun _ => False) := ⟨sr', fun _ _ _ z => z.elim⟩
    have fin : ∀ F4 H4, Step F3 H3 F4 H4 → Same F4 H4 → ∀ b : Bool, wIf b (wE G e ρ' (fun _ => False) (fun r => frzP r fun y => lcLoop (stT t) (fun ρ2 k => wCond G cd ρ2 k) (fun ρ2 k => wE G e ρ2 (fun _ => False) k) (wip ρ (own.map (·.2))) (ds.drop (i + 1)) (accD ++ [y]) P))
        (lcLoop (stT t) (fun ρ2 k => wCond G cd ρ2 k) (fun ρ2 k => wE G e ρ2 (fun _ => False) k) (wip ρ (own.map (·.2))) (ds.drop (i + 1)) accD P) →
        (if b = true then tE X.K T W0 (wE G e) σ' H4 (fun y H5 => ∃ acc, H5 p = some (.lst acc) ∧ acc.length < sizeLine ∧ ∃ Fc acc' accD, LS X.K F1 H1 Fc (upd H5 p (.lst (acc ++ [y]))) p acc' accD ∧ acc'.length ≤ i + 1 ∧ lcLoop (stT t) (fun ρ2 k => wCond G cd ρ2 k) (fun ρ2 k => wE G e ρ2 (fun _ => False) k) (wip ρ (own.map (·.2))) (ds.drop (i + 1)) accD P)
        else ∃ Fc acc accD, LS X.K F1 H1 Fc H4 p acc accD ∧ acc.length ≤ i + 1 ∧ lcLoop (stT t) (fun ρ2 k => wCond G cd ρ2 k) (fun ρ2 k => wE G e ρ2 (fun _ => False) k) (wip ρ (own.map (·.2))) (ds.drop (i + 1)) accD P) := fun F4 H4 s4 f4 b hb => by
      have ls4 := ls3.step s4 f4
      cases b with
      | false =>
        have hb := wIf_f hb
        rw [if_neg Bool.false_ne_true]
        exact ⟨F4, acc, accD, ls4, by omega, hb⟩
      | true =>
        have hb := wIf_t hb
        rw [if_pos rfl]
        refine (run1 (sx'.step s4 f4) hb).mono fun y H5 ⟨F5, r, s5, f5, v5, h5⟩ => ?_
        have ls5 := ls4.step s5 f5
        obtain ⟨F6, yd, a1, a2, a3, a4, a5⟩ := frzP_ok v5 f5 h5
        refine ⟨acc, ls5.at_, by omega, F6, acc ++ [y], accD ++ [yd], ls5.push hp a1 a2 (fun a h1 h2 => a4 a (Same.nn ls4.s.h h1) (ls5.s.s a h1 h2)) (a4 p (ne_none_of ls4.at_) ls5.off) a3, by rw [List.length_append]; simp; omega, a5⟩
    cases cd with
    | nil => exact fin F3 H3 Step.refl f3 true (show wIf true _ _ from hw')
    | cons c cs =>
      have hw' : wE G c ρ' (fun _ => False) (fun r => wTru r fun b => wIf b _ _) := hw'
      show tE X.K T W0 (wE G c) σ' H3 _
      refine (run1 sx' hw').mono fun x4 H4 ⟨F4, r, s4, f4, v4, h4⟩ => ?_
      obtain ⟨b, e1, h4⟩ := wTru_inv h4
      subst e1
      exact ⟨b, rv_bool v4, fin F4 H4 s4 f4 b h4⟩
  · have e1 : i = ds.length := by omega
    subst e1
    refine .inl ⟨j2.2, ?_⟩
    rw [List.drop_length] at hw
    exact post (.l accD true) (.ref p) Fc Hc hw (s1.trans ls.s) ls.f ⟨p, acc, rfl, ls.at_, ls.d, ls.off, fun _ => Same.free s1.h hp⟩
end
end DL
end
section
set_option maxRecDepth 100000
set_option maxHeartbeats 4000000
namespace DL
open PySem PySem.Spec PyProof.Rows L2 RZ RT
theorem bo_free {T : Tb} {G : Nat → DSp} {W : WX} {n : Nat} {cm : Bool} {X : Cx} (g : GX T G n cm W X) (x : String) (h : x ∈ ["isinstance", "range", "enumerate", "zip", "reversed", "int", "bool", "str", "tuple", "list"]) : X.mg (Str.ofString x) = none := g.bo x h
theorem ty_mem {t : String} (h : ["int", "bool", "str", "tuple", "list"].contains t = true) : t ∈ ["isinstance", "range", "enumerate", "zip", "reversed", "int", "bool", "str", "tuple", "list"] := by
  have e : t = "int" ∨ t = "bool" ∨ t = "str" ∨ t = "tuple" ∨ t = "list" := by simpa using h
  rcases e with e | e | e | e | e <;> subst e <;> decide
section
variable {X : Cx} {K : PySem.W.Frag} {F H B F' : Hp}
def LenOk (K : PySem.W.Frag) (H : Hp) : Prop := ∀ (a : Addr) (xs : List V), (SqL K H a xs ∨ SqT K H a xs) → xs.length ≤ sizeLine
theorem PI.inv {tg x : Expr} {wi : TI} (h : PI X tg x wi) : PI X tg x (fun σ H R => wi σ H fun J H' => LenOk X.K H' → R J H') := by
  refine ⟨fun pins s σ H R I q => ?_⟩
  refine thn (h.run pins s σ H _ I q) fun v s1 q1 => thn q1 fun itv s2 q2 => ?_
  obtain ⟨it, fp, tn, J, H', e, I2, T2, st, fr, r⟩ := q2
  exact ⟨it, fp, tn, J, H', e, I2, T2, st, fr, r fun a xs q => by
    rcases q with q | q
    · obtain ⟨_, _, _, z⟩ := I2.list q; exact z
    · obtain ⟨_, _, _, z⟩ := I2.tuple q; exact z⟩
theorem seq_at {r : R} {y : V} {ds : List D} (v : RV K B F H r y) (s : Same F F') (f : Same F' H) (e : look r = .list ds) : ∃ (a : Addr) (xs : List V) (F2 : Hp), y = .ref a ∧ Same F' F2 ∧ Same F2 H ∧ (∀ b, B b ≠ none → F' b = none → F2 b = none) ∧ DqAll K F2 xs ds ∧
    SqL K H a xs ∧ ∀ F3 H3, Same F2 F3 → Same F3 H3 → (borR r = true → Same H H3) → SqL K H3 a xs := by
  cases r with
  | d d =>
    have e : d = .list ds := e
    subst e
    cases (show Dq K F y (.list ds) from v) with
    | lst p1 p2 =>
      rename_i a xs
      exact ⟨a, xs, F', rfl, Same.refl _, f, fun _ _ z => z, dpa_mono s p2, .inl (Rd.mono (s.trans f) p1), fun F3 H3 q1 q2 _ => .inl (Rd.mono (s.trans (q1.trans q2)) p1)⟩
  | l es fr =>
    have e : PyData.list es = .list ds := e
    cases e
    obtain ⟨a, xs, p1, p2, p3, p4, p5⟩ := v
    subst p1
    cases fr with
    | false => exact ⟨a, xs, F', rfl, Same.refl _, f, fun _ _ z => z, dpa_mono s p3, .inl (.inl p2), fun F3 H3 q1 q2 q3 => .inl (.inl (q3 rfl _ _ p2))⟩
    | true =>
      cases q : F' a with
      | none =>
        refine ⟨a, xs, upd F' a (.lst xs), rfl, same_upd q, upd_le f p2, fun b hb hf => ?_, dpa_mono (s.trans (same_upd q)) p3, .inl (.inl p2), fun F3 H3 q1 q2 _ => .inl (.inl (q2 _ _ (q1 _ _ upd_same)))⟩
        rw [upd_ne (fun z => by subst z; exact hb (p5 rfl))]
        exact hf
      | some o =>
        have e := f a o q
        rw [p2] at e
        cases e
        exact ⟨a, xs, F', rfl, Same.refl _, f, fun _ _ z => z, dpa_mono s p3, .inl (.inl p2), fun F3 H3 q1 q2 _ => .inl (.inl (q2 _ _ (q1 _ _ q)))⟩
end
mutual
theorem sE {T : Tb} {G : Nat → DSp} {n : Nat} {cm : Bool} : ∀ (e : E) (X : Cx) (W : WX) (g : GX T G n cm W X) (x : Expr), ckE T X.N cm X.env.scope e x = true → Snd X x (tE X.K T W (wE G e))
  | .v i, X, W, g, x, h => by
    unfold ckE at h
    split at h
    · obtain ⟨h1, h2, h3, h4⟩ := ckV_ok h
      refine Snd.of (PE.imp (pe_var h1 h2 h3 h4) fun σ H Q q => ?_) rfl
      obtain ⟨F0, H0, F, ρ, Ex, P, sx, q, post⟩ := q
      unfold wE wVar at q
      split at q
      · rename_i d e
        obtain ⟨v, g1, g2⟩ := sx.sr.val i d e
        exact ⟨v, g1, post _ _ F H q Step.refl sx.sr.fh g2⟩
      · rename_i ds b e
        obtain ⟨a, xs, g1, g2, g3, g4, g5⟩ := sx.sr.own i ds b e
        exact ⟨_, g1, post _ _ F H q Step.refl sx.sr.fh ⟨a, xs, rfl, g2, g3, g4, fun z => nomatch z⟩⟩
      · exact q.elim
    · cases h
  | .non, X, W, g, x, h => by
    unfold ckE at h
    split at h
    · refine Snd.of (PE.imp pe_non fun σ H Q q => ?_) rfl
      obtain ⟨F0, H0, F, ρ, Ex, P, sx, q, post⟩ := q
      exact post _ _ F H q Step.refl sx.sr.fh Dq.non
    · cases h
  | .bl b, X, W, g, x, h => by
    unfold ckE at h
    split at h
    · refine Snd.of (PE.imp pe_bl fun σ H Q q => ?_) rfl
      obtain ⟨F0, H0, F, ρ, Ex, P, sx, q, post⟩ := q
      have e := eq_of_beq h
      subst e
      exact post _ _ F H q Step.refl sx.sr.fh (Dq.bl _)
    · cases h
  | .int k, X, W, g, x, h => by
    unfold ckE at h
    split at h
    · refine Snd.of (PE.imp pe_int fun σ H Q q => ?_) rfl
      obtain ⟨F0, H0, F, ρ, Ex, P, sx, q, post⟩ := q
      have e := of_decide_eq_true h
      subst e
      exact post _ _ F H q Step.refl sx.sr.fh (Dq.int _)
    · cases h
  | .str k, X, W, g, x, h => by
    unfold ckE at h
    split at h
    · refine Snd.of (PE.imp pe_str fun σ H Q q => ?_) rfl
      obtain ⟨F0, H0, F, ρ, Ex, P, sx, q, post⟩ := q
      have e := of_decide_eq_true h
      subst e
      exact post _ _ F H q Step.refl sx.sr.fh (Dq.str _)
    · cases h
  | .gl k, X, W, g, x, h => by
    unfold ckE at h
    split at h
    · obtain ⟨h0, h1⟩ := ba h
      obtain ⟨e, h2, h3⟩ := ckG_ok h1
      subst e
      obtain ⟨u, v, g1, g2, g3⟩ := g.gl k (by simpa using h0)
      refine Snd.of (PE.imp (pe_glob (Gl_of h2) g1 g2 h3) fun σ H Q q => ?_) rfl
      obtain ⟨F0, H0, F, ρ, Ex, P, sx, q, post⟩ := q
      exact post _ _ F H q Step.refl sx.sr.fh (dp_mono (fun _ _ z => by cases z) g3)
    · cases h
  | .bin op a b, X, W, g, x, h => by
    unfold ckE at h
    split at h
    · obtain ⟨h, h2⟩ := ba h
      obtain ⟨h0, h1⟩ := ba h
      have e := of_decide_eq_true h0
      subst e
      exact Snd.of (PE.imp (pe_op (op_binD op) (sE a X W g _ h1).pe (sE b X W g _ h2).pe) fun σ H Q q => tE_bin q) rfl
    · cases h
  | .neg a, X, W, g, x, h => by
    unfold ckE at h
    split at h
    · exact Snd.of (PE.imp (pe_un un_negD (sE a X W g _ h).pe) fun σ H Q q => tE_un q) rfl
    · cases h
  | .not a, X, W, g, x, h => by
    unfold ckE at h
    split at h
    · have sa := sE a X W g _ h
      refine ⟨PE.imp (pe_not sa.pe) fun σ H Q q => ?_, PT.imp (pt_not sa.pt) fun σ H Q q => ?_, fun z => by cases z⟩
      · obtain ⟨F0, H0, F, ρ, Ex, P, sx, q, post⟩ := q
        refine (run1 (w := wE G a) sx q).mono fun y H1 ⟨F1, r, s1, f1, v1, h1⟩ => ?_
        obtain ⟨b, e, zz⟩ := wTru_inv h1
        clear h1
        have h1 := zz
        clear zz
        subst e
        exact ⟨b, rv_bool v1, post _ _ F1 H1 h1 s1 f1 (Dq.bl _)⟩
      · obtain ⟨F0, H0, F, ρ, Ex, P, sx, q, post⟩ := q
        refine (run1 (w := wE G a) sx q).mono fun y H1 ⟨F1, r, s1, f1, v1, h1⟩ => ?_
        obtain ⟨b, e, zz⟩ := wTru_inv h1
        clear h1
        have h1 := zz
        clear zz
        subst e
        obtain ⟨k, e, q2⟩ := post _ (.bl (!b)) F1 H1 h1 s1 f1 (Dq.bl _)
        cases e
        exact ⟨b, rv_bool v1, q2⟩
    · cases h
  | .cmp op a b, X, W, g, x, h => by
    unfold ckE at h
    split at h
    · obtain ⟨h, h3⟩ := ba h
      obtain ⟨h, h2⟩ := ba h
      obtain ⟨h0, h1⟩ := ba h
      have e := of_decide_eq_true h0
      subst e
      have sa := (sE a X W g _ h2).pe
      have sb := (sE b X W g _ h3).pe
      exact ⟨PE.imp (pe_cmpR (op_cmpD op g.hu) sa sb (noMarks h1)) fun σ H Q q => tE_bin q, PT.imp (pt_cmpR (op_cmpD op g.hu) sa sb (noMarks h1)) fun σ H Q q => tE_bin q, fun z => by cases z⟩
    · cases h
  | .chn op op' a b c, X, W, g, x, h => by
    unfold ckE at h
    split at h
    · obtain ⟨h, h6⟩ := ba h
      obtain ⟨h, h5⟩ := ba h
      obtain ⟨h, h4⟩ := ba h
      obtain ⟨h, h3⟩ := ba h
      obtain ⟨h, h2⟩ := ba h
      obtain ⟨h0, h1⟩ := ba h
      have e := of_decide_eq_true h0
      have e' := of_decide_eq_true h1
      subst e e'
      have sa := (sE a X W g _ h4).pe
      have sb := (sE b X W g _ h5).pe
      have sc := (sE c X W g _ h6).pe
      have lm : ∀ q r : Expr, plainX r = true → lastMarks [op, op'] [q, r] = false := fun q r hr => noMarks hr
      have im : ∀ σ H Q, tE X.K T W (wE G (.chn op op' a b c)) σ H Q → tChain (rB X.K (wCmp op)) (rB X.K (wCmp op')) (tE X.K T W (wE G a)) (tE X.K T W (wE G b)) (tE X.K T W (wE G c)) σ H Q := fun σ H Q q => by
        obtain ⟨F0, H0, F, ρ, Ex, P, sx, q, post⟩ := q
        refine (run1 (w := wE G a) sx q).mono fun y H1 ⟨F1, r, s1, f1, v1, k1⟩ => ?_
        refine (run1 (w := wE G b) (sx.step s1 f1) k1).mono fun z H2 ⟨F2, s, s2, f2, v2, k2⟩ => ?_
        refine ⟨F2, H, r, s, _, f2, v1.step s2, v2.base s1.h, k2, fun t v F3 H3 hp s3 f3 v3 => ?_⟩
        obtain ⟨k, e, zz⟩ := wTru_inv hp
        clear hp
        have hp := zz
        clear zz
        subst e
        refine ⟨k, rv_bool v3, ?_⟩
        cases k with
        | false =>
          have hp := wIf_f hp
          rw [if_neg Bool.false_ne_true]
          exact post _ _ F3 H3 hp ((s1.trans s2).trans s3) f3 (Dq.bl _)
        | true =>
          have hp := wIf_t hp
          rw [if_pos rfl]
          refine (run1 (w := wE G c) (sx.step ((s1.trans s2).trans s3) f3) hp).mono fun w H4 ⟨F4, u, s4, f4, v4, k4⟩ => ?_
          exact ⟨F4, H, s, u, P, f4, ((v2.step s3).step s4).base s1.h, v4.base (s1.h.trans (s2.h.trans s3.h)), k4, fun t v F' H' hp s5 f5 v5 => post t v F' H' hp ((((s1.trans s2).trans s3).trans s4).trans s5) f5 (v5.base (s1.h.trans (s2.h.trans (s3.h.trans s4.h))))⟩
      exact ⟨PE.imp (pe_chain (op_cmpD op g.hu) (op_cmpD op' g.hu) sa sb sc (lm _ _ h3)) im, PT.imp (pt_chain (op_cmpD op g.hu) (op_cmpD op' g.hu) sa sb sc (lm _ _ h3)) fun σ H Q q => im σ H _ q, fun z => by cases z⟩
    · cases h
  | .isN a, X, W, g, x, h => by
    unfold ckE at h
    split at h
    · have sa := (sE a X W g _ h).pe
      have im : ∀ σ H Q, tE X.K T W (wE G (.isN a)) σ H Q → tIsN (tE X.K T W (wE G a)) σ H Q := fun σ H Q q => by
        obtain ⟨F0, H0, F, ρ, Ex, P, sx, q, post⟩ := q
        refine (run1 (w := wE G a) sx q).mono fun y H1 ⟨F1, r, s1, f1, v1, k1⟩ => ?_
        rw [isNone_rv v1]
        exact post _ _ F1 H1 k1 s1 f1 (Dq.bl _)
      exact ⟨PE.imp (pe_cmp (pc_isN sa)) im, PT.imp (pt_cmp (pc_isN sa)) fun σ H Q q => im σ H _ q, fun z => by cases z⟩
    · cases h
  | .notN a, X, W, g, x, h => by
    unfold ckE at h
    split at h
    · have sa := (sE a X W g _ h).pe
      have im : ∀ σ H Q, tE X.K T W (wE G (.notN a)) σ H Q → tNotN (tE X.K T W (wE G a)) σ H Q := fun σ H Q q => by
        obtain ⟨F0, H0, F, ρ, Ex, P, sx, q, post⟩ := q
        refine (run1 (w := wE G a) sx q).mono fun y H1 ⟨F1, r, s1, f1, v1, k1⟩ => ?_
        rw [isNone_rv v1]
        exact post _ _ F1 H1 k1 s1 f1 (Dq.bl _)
      exact ⟨PE.imp (pe_cmp (pc_notN sa)) im, PT.imp (pt_cmp (pc_notN sa)) fun σ H Q q => im σ H _ q, fun z => by cases z⟩
    · cases h
  | .and a b, X, W, g, x, h => by
    unfold ckE at h
    split at h
    · rename_i p q r ps
      obtain ⟨h1, h2⟩ := ba h
      have sa := sE a X W g _ h1
      have key : PE X (.BoolOp .And (q :: r) ps) (tE X.K T W (wE G b)) ∧ PW X (.BoolOp .And (q :: r) ps) (tTest (tE X.K T W (wE G b))) := by
        cases r with
        | nil =>
          have sb := sE b X W g _ h2
          exact ⟨pe_one sb.pe, pw_and1 sb.pt⟩
        | cons r rs =>
          have sb := sE b X W g _ h2
          exact ⟨sb.pe, sb.pw rfl⟩
      have imT : ∀ σ H Q, tTest (tE X.K T W (wE G (.and a b))) σ H Q → tAnd (tTest (tE X.K T W (wE G a))) (tTest (tE X.K T W (wE G b))) σ H Q := fun σ H Q q => by
        obtain ⟨F0, H0, F, ρ, Ex, P, sx, q, post⟩ := q
        refine (run1 (w := wE G a) sx q).mono fun y H1 ⟨F1, r, s1, f1, v1, k1⟩ => ?_
        obtain ⟨k, e, zz⟩ := wTru_inv k1
        clear k1
        have k1 := zz
        clear zz
        subst e
        refine ⟨k, rv_bool v1, ?_⟩
        cases k with
        | false =>
          have k1 := wIf_f k1
          rw [if_neg Bool.false_ne_true]
          obtain ⟨k, e, q2⟩ := post _ (.bl false) F1 H1 k1 s1 f1 (Dq.bl _)
          cases e
          exact q2
        | true =>
          have k1 := wIf_t k1
          rw [if_pos rfl]
          exact (run1 (w := wE G b) (sx.step s1 f1) k1).mono fun z H2 ⟨F2, r2, s2, f2, v2, k2⟩ => post _ _ F2 H2 k2 (s1.trans s2) f2 (v2.base s1.h)
      have w : PW X (.BoolOp .And (p :: q :: r) ps) (tTest (tE X.K T W (wE G (.and a b)))) := PW.imp (pw_and sa.pt key.2) imT
      refine ⟨PE.imp (pe_and sa.pe key.1) fun σ H Q q => ?_, w.pt, fun _ => w⟩
      obtain ⟨F0, H0, F, ρ, Ex, P, sx, q, post⟩ := q
      refine (run1 (w := wE G a) sx q).mono fun y H1 ⟨F1, r, s1, f1, v1, k1⟩ => ?_
      obtain ⟨k, e, zz⟩ := wTru_inv k1
      clear k1
      have k1 := zz
      clear zz
      subst e
      refine ⟨k, rv_bool v1, ?_⟩
      cases k with
      | false =>
        have k1 := wIf_f k1
        rw [if_neg Bool.false_ne_true]
        exact post _ _ F1 H1 k1 s1 f1 (Dq.bl _)
      | true =>
        have k1 := wIf_t k1
        rw [if_pos rfl]
        exact (run1 (w := wE G b) (sx.step s1 f1) k1).mono fun z H2 ⟨F2, r2, s2, f2, v2, k2⟩ => post _ _ F2 H2 k2 (s1.trans s2) f2 (v2.base s1.h)
    · cases h
  | .or a b, X, W, g, x, h => by
    unfold ckE at h
    split at h
    · rename_i p q r ps
      obtain ⟨h1, h2⟩ := ba h
      have sa := sE a X W g _ h1
      have key : PE X (.BoolOp .Or (q :: r) ps) (tE X.K T W (wE G b)) ∧ PW X (.BoolOp .Or (q :: r) ps) (tTest (tE X.K T W (wE G b))) := by
        cases r with
        | nil =>
          have sb := sE b X W g _ h2
          exact ⟨pe_one sb.pe, pw_or1 sb.pt⟩
        | cons r rs =>
          have sb := sE b X W g _ h2
          exact ⟨sb.pe, sb.pw rfl⟩
      have imT : ∀ σ H Q, tTest (tE X.K T W (wE G (.or a b))) σ H Q → tOr (tTest (tE X.K T W (wE G a))) (tTest (tE X.K T W (wE G b))) σ H Q := fun σ H Q q => by
        obtain ⟨F0, H0, F, ρ, Ex, P, sx, q, post⟩ := q
        refine (run1 (w := wE G a) sx q).mono fun y H1 ⟨F1, r, s1, f1, v1, k1⟩ => ?_
        obtain ⟨k, e, zz⟩ := wTru_inv k1
        clear k1
        have k1 := zz
        clear zz
        subst e
        refine ⟨k, rv_bool v1, ?_⟩
        cases k with
        | true =>
          have k1 := wIf_t k1
          rw [if_pos rfl]
          obtain ⟨k, e, q2⟩ := post _ (.bl true) F1 H1 k1 s1 f1 (Dq.bl _)
          cases e
          exact q2
        | false =>
          have k1 := wIf_f k1
          rw [if_neg Bool.false_ne_true]
          exact (run1 (w := wE G b) (sx.step s1 f1) k1).mono fun z H2 ⟨F2, r2, s2, f2, v2, k2⟩ => post _ _ F2 H2 k2 (s1.trans s2) f2 (v2.base s1.h)
      have w : PW X (.BoolOp .Or (p :: q :: r) ps) (tTest (tE X.K T W (wE G (.or a b)))) := PW.imp (pw_or sa.pt key.2) imT
      refine ⟨PE.imp (pe_or sa.pe key.1) fun σ H Q q => ?_, w.pt, fun _ => w⟩
      obtain ⟨F0, H0, F, ρ, Ex, P, sx, q, post⟩ := q
      refine (run1 (w := wE G a) sx q).mono fun y H1 ⟨F1, r, s1, f1, v1, k1⟩ => ?_
      obtain ⟨k, e, zz⟩ := wTru_inv k1
      clear k1
      have k1 := zz
      clear zz
      subst e
      refine ⟨k, rv_bool v1, ?_⟩
      cases k with
      | true =>
        have k1 := wIf_t k1
        rw [if_pos rfl]
        exact post _ _ F1 H1 k1 s1 f1 (Dq.bl _)
      | false =>
        have k1 := wIf_f k1
        rw [if_neg Bool.false_ne_true]
        exact (run1 (w := wE G b) (sx.step s1 f1) k1).mono fun z H2 ⟨F2, r2, s2, f2, v2, k2⟩ => post _ _ F2 H2 k2 (s1.trans s2) f2 (v2.base s1.h)
    · cases h
  | .tup es, X, W, g, x, h => by
    unfold ckE at h
    split at h
    · refine Snd.of (PE.imp (pe_tup (sEs es X W g _ h)) fun σ H Q q => ?_) rfl
      obtain ⟨F0, H0, F, ρ, Ex, P, sx, q, post⟩ := q
      refine (runA (w := wEs G es) sx q).mono fun vs H1 ⟨F1, rs, s1, f1, v1, k1⟩ => ?_
      obtain ⟨F2, ds, a1, a2, a3, a4, a5, a6⟩ := args_at v1 (Same.refl _) f1 k1
      refine ⟨by rw [dpa_len a3]; exact a5, fun p hp => ?_⟩
      exact post _ _ _ _ a6 ((step_frz s1 a1 a4).trans (Step.new a2 hp)) (same_new a2) (Dq.tup (.inl (.inl upd_same)) (dpa_mono (same_upd (Same.free a2 hp)) a3))
    · cases h
  | .lst es, X, W, g, x, h => by
    unfold ckE at h
    split at h
    · refine Snd.of (PE.imp (pe_lst (sEs es X W g _ h)) fun σ H Q q => ?_) rfl
      obtain ⟨F0, H0, F, ρ, Ex, P, sx, q, post⟩ := q
      refine (runA (w := wEs G es) sx q).mono fun vs H1 ⟨F1, rs, s1, f1, v1, k1⟩ => ?_
      obtain ⟨F2, ds, a1, a2, a3, a4, a5, a6⟩ := args_at v1 (Same.refl _) f1 k1
      refine ⟨by rw [dpa_len a3]; exact a5, fun p hp => ?_⟩
      exact post _ _ _ _ a6 ((step_frz s1 a1 a4).trans (Step.own a2 hp)) (same_own a2 hp) ((rv_new a2 hp a3).base s1.h)
    · cases h
  | .ix a b, X, W, g, x, h => by
    unfold ckE at h
    split at h
    · obtain ⟨h, h2⟩ := ba h
      obtain ⟨h0, h1⟩ := ba h
      exact Snd.of (PE.imp (pe_ix ix_D (sE a X W g _ h1).pe (sE b X W g _ h2).pe (plainIx h0)) fun σ H Q q => tE_bin q) rfl
    · cases h
  | .sl a lo hi, X, W, g, x, h => by
    unfold ckE at h
    split at h
    · obtain ⟨h, h2⟩ := ba h
      obtain ⟨h0, h1⟩ := ba h
      refine Snd.of (PE.imp (pe_slice sl_D (sE a X W g _ h0).pe (sO lo X W g _ h1) (sO hi X W g _ h2)) fun σ H Q q => ?_) rfl
      obtain ⟨F0, H0, F, ρ, Ex, P, sx, q, post⟩ := q
      refine (run1 (w := wE G a) sx q).mono fun y H1 ⟨F1, r, s1, f1, v1, k1⟩ => ?_
      refine (runO (w := wO G lo) (sx.step s1 f1) k1).mono fun l2 H2 ⟨F2, s2, f2, k2⟩ => ?_
      refine (runO (w := wO G hi) (sx.step (s1.trans s2) f2) k2).mono fun h3 H3 ⟨F3, s3, f3, k3⟩ => ?_
      exact ⟨F3, H, r, P, f3, (v1.step s2).step s3, k3, fun t v F' H' hp s4 f4 v4 => post t v F' H' hp (((s1.trans s2).trans s3).trans s4) f4 (v4.base (s1.h.trans (s2.h.trans s3.h)))⟩
    · cases h
  | .call f es, X, W, g, x, h => by
    unfold ckE at h
    split at h
    · rename_i y yp p ps pos
      obtain ⟨h, h3⟩ := ba h
      obtain ⟨h, h2⟩ := ba h
      obtain ⟨hc, h1⟩ := ba h
      obtain ⟨e, g1, g2⟩ := ckG_ok h2
      subst e
      obtain ⟨k, a, fd, pp, hk, hF, hm, hkp, hb⟩ := (g.fns f (by simpa using h1)).ex
      obtain ⟨px, pl⟩ := pos_call h3 X.env pos
      refine Snd.of (PE.imp (pe_callS (E := WE W) hF ((g.room hc).mono hk) (Gl_of g1) hm hkp hb (fun σ => passAt g.tk σ) (sEs es X W g _ h3) g2 (starNo px) pl) fun σ H Q q => ?_) rfl
      obtain ⟨F0, H0, F, ρ, Ex, P, sx, q, post⟩ := q
      refine (runA (w := wEs G es) sx q).mono fun vs H1 ⟨F1, rs, s1, f1, v1, k1⟩ => ?_
      obtain ⟨F2, ds, a1, a2, a3, a4, a5⟩ := args_at v1 (Same.refl _) f1 k1
      have s2 := step_frz s1 a1 a4
      exact ⟨F2, ds, P, Ex, a2, a3, a5, fun r v F' H' hp s3 f3 v3 => post r v F' H' hp (s2.trans s3) f3 (v3.base s1.h), fun c F' H' hp s3 f3 => sx.ex c F' H' hp (s2.trans s3) f3⟩
    · cases h
  | .bi b es, X, W, g, x, h => by
    unfold ckE at h
    split at h
    · rename_i y yp p ps pos
      obtain ⟨h, h3⟩ := ba h
      obtain ⟨hc, h2⟩ := ba h
      obtain ⟨e, g1, g2⟩ := ckG_ok h2
      subst e
      obtain ⟨px, pl⟩ := pos_call h3 X.env pos
      have im : ∀ σ H Q, tE X.K T W (wE G (.bi b es)) σ H Q → tCB (rC X.K (wBi b)) (tA X.K T W (wEs G es)) σ H Q := fun σ H Q q => by
        obtain ⟨F0, H0, F, ρ, Ex, P, sx, q, post⟩ := q
        refine (runA (w := wEs G es) sx q).mono fun vs H1 ⟨F1, rs, s1, f1, v1, k1⟩ => ?_
        exact ⟨F1, H, rs, P, f1, v1, k1, fun t v F' H' hp s2 f2 v2 => post t v F' H' hp (s1.trans s2) f2 (v2.base s1.h)⟩
      rcases bi_all (X := X) b (g.calm hc) with ⟨_, c, bt⟩ | ⟨_, c, bt⟩
      · exact Snd.of (PE.imp (pe_callTy c (Gl_of g1) (g.bi b) bt (sEs es X W g _ h3) (bname_ne b) g2 (starNo px) pl) im) rfl
      · exact Snd.of (PE.imp (pe_callB c (Gl_of g1) (g.bi b) bt (sEs es X W g _ h3) (bname_ne b) g2 (starNo px) pl) im) rfl
    · cases h
  | .isi a t, X, W, g, x, h => by
    unfold ckE at h
    split at h
    · rename_i y yp p z zp pos
      obtain ⟨h, h4⟩ := ba h
      obtain ⟨h, h3⟩ := ba h
      obtain ⟨h, h2⟩ := ba h
      obtain ⟨h0, h1⟩ := ba h
      obtain ⟨e, g1, g2⟩ := ckG_ok h0
      obtain ⟨e', g1', g2'⟩ := ckG_ok h3
      subst e e'
      obtain ⟨tb, tn, _⟩ := ty_ok h4
      have sa := (sE a X W g _ h2).pe
      have pz : PE X (.Name (Str.ofString t) zp) (tC (.ty t)) := pe_bltn (Gl_of g1') (g.bo t (ty_mem h4)) tb rfl tn g2'
      have pa : PA X [p, .Name (Str.ofString t) zp] (tCons (tE X.K T W (wE G a)) (tCons (tC (.ty t)) tNil)) := pa_cons sa (pa_cons pz pa_nil) (starNo h1)
      refine Snd.of (PE.imp (pe_callB call_isi (Gl_of g1) (g.bo "isinstance" (by decide)) PyProof.Rows.boot_isinstance pa (by decide) g2 (starNo h1) rfl) fun σ H Q q => ?_) rfl
      obtain ⟨F0, H0, F, ρ, Ex, P, sx, q, post⟩ := q
      refine (run1 (w := wE G a) sx q).mono fun y H1 ⟨F1, r, s1, f1, v1, k1⟩ => ?_
      obtain ⟨k1, k2⟩ := k1
      obtain ⟨b, hb⟩ : ∃ b, kitB (tyD (look r)) t = some b := by
        cases e : kitB (tyD (look r)) t with
        | none => exact absurd e k1
        | some b => exact ⟨b, rfl⟩
      have eb : isiB (look r) t = b := by unfold isiB; rw [hb]; rfl
      rw [eb] at k2
      exact ⟨y, .ty t, .type (tyD (look r)), .type t, b, rfl, .ty t, tyX_of (v1.look f1), kit_ty hb, post _ _ F1 H1 k2 s1 f1 (Dq.bl _)⟩
    · cases h
  | .lc elt tg it cond own, X, W, g, x, h => by
    unfold ckE at h
    split at h
    · rename_i e t i ifs scope pos
      obtain ⟨h, h6⟩ := ba h
      obtain ⟨h, h5⟩ := ba h
      obtain ⟨h, h4⟩ := ba h
      obtain ⟨h, h3⟩ := ba h
      obtain ⟨hc, h2⟩ := ba h
      have ok := blkOk_by h3
      obtain ⟨pi, nf⟩ := sI it X W g t i h2 (g.calm hc)
      have hg := fun (s : Shared) (H : Hp) (C : Addr) (cl : List (Str × Addr)) (fp : List Addr) => pg_of (X := X.blk s H scope (compEnvC scope cl C X.env) fp) (sc := scope) blk_loc g.nd (g.calm hc) h4
      have ht := fun (s : Shared) (H : Hp) (C : Addr) (cl : List (Str × Addr)) (fp : List Addr) => sCond cond (X.blk s H scope (compEnvC scope cl C X.env) fp) (gx_blk g) ifs h6
      have he := fun (s : Shared) (H : Hp) (C : Addr) (cl : List (Str × Addr)) (fp : List Addr) => (sE elt (X.blk s H scope (compEnvC scope cl C X.env) fp) W0 (gx_blk g) e h5).pe
      exact Snd.of (PE.imp (pe_lc (g.calm hc) g.nd pi ok hg ht he nf) fun σ H Q q => sLc g (g.calm hc) pi ok hg ht he nf (ckT_own h4) (pos := pos) q) rfl
    · cases h
theorem sEs {T : Tb} {G : Nat → DSp} {n : Nat} {cm : Bool} : ∀ (es : Es) (X : Cx) (W : WX) (g : GX T G n cm W X) (xs : List Expr), ckEs T X.N cm X.env.scope es xs = true → PA X xs (tA X.K T W (wEs G es))
  | .nil, X, W, g, xs, h => by
    unfold ckEs at h
    split at h
    · refine PA.imp pa_nil fun σ H Q q => ?_
      obtain ⟨F0, H0, F, ρ, Ex, P, sx, q, post⟩ := q
      exact post [] [] F H q Step.refl sx.sr.fh rfl
    · cases h
  | .cons e es, X, W, g, xs, h => by
    unfold ckEs at h
    split at h
    · obtain ⟨h, h2⟩ := ba h
      obtain ⟨h0, h1⟩ := ba h
      refine PA.imp (pa_cons (sE e X W g _ h1).pe (sEs es X W g _ h2) (starNo h0)) fun σ H Q q => ?_
      obtain ⟨F0, H0, F, ρ, Ex, P, sx, q, post⟩ := q
      refine (run1 (w := wE G e) sx q).mono fun y H1 ⟨F1, r, s1, f1, v1, k1⟩ => ?_
      refine (runA (w := wEs G es) (sx.step s1 f1) k1).mono fun ys H2 ⟨F2, rs, s2, f2, v2, k2⟩ => ?_
      exact post (r :: rs) (y :: ys) F2 H2 k2 (s1.trans s2) f2 ⟨y, ys, rfl, v1.step s2, v2.base s1.h⟩
    · cases h
theorem sO {T : Tb} {G : Nat → DSp} {n : Nat} {cm : Bool} : ∀ (es : Es) (X : Cx) (W : WX) (g : GX T G n cm W X) (x : Option Expr), ckO T X.N cm X.env.scope es x = true → PO X x (tOO X.K T W (wO G es))
  | .nil, X, W, g, x, h => by
    unfold ckO at h
    split at h
    · refine PO.imp po_none fun σ H Q q => ?_
      obtain ⟨F0, H0, F, ρ, Ex, P, sx, q, post⟩ := q
      exact post none F H q Step.refl sx.sr.fh
    · cases h
  | .cons e es, X, W, g, x, h => by
    unfold ckO at h
    split at h
    · refine PO.imp (po_some (sE e X W g _ h).pe) fun σ H Q q => ?_
      obtain ⟨F0, H0, F, ρ, Ex, P, sx, q, post⟩ := q
      refine (run1 (w := wE G e) sx q).mono fun y H1 ⟨F1, r, s1, f1, v1, k1⟩ => ?_
      split at k1
      · exact ⟨_, rv_int v1, post _ F1 H1 k1 s1 f1⟩
      · exact k1.elim
    · cases h
theorem sCond {T : Tb} {G : Nat → DSp} {n : Nat} {cm : Bool} : ∀ (es : Es) (X : Cx) (g : GX T G n cm W0 X) (xs : List Expr), ckCond T X.N cm X.env.scope es xs = true → PTs X xs (tCd X.K T G es)
  | .nil, X, g, xs, h => by
    unfold ckCond at h
    split at h
    · exact pts_nil
    · cases h
  | .cons e es, X, g, xs, h => by
    unfold ckCond at h
    split at h
    · exact pts_one (sE e X W0 g _ h).pt
    · cases h
theorem sI {T : Tb} {G : Nat → DSp} {n : Nat} {cm : Bool} : ∀ (it : It) (X : Cx) (W : WX) (g : GX T G n cm W X) (t x : Expr), ckIt T X.N cm X.env.scope it t x = true → X.calm = true → PI X t x (tI X.K T W (wI G it)) ∧ ∀ v, foldedSetIterable x X.env v = pure v
  | .ex e, X, W, g, t, x, h, hc => by
    unfold ckIt at h
    obtain ⟨h0, h1⟩ := ba h
    refine ⟨PI.imp (pi_seq (sE e X W g _ h1).pe) fun σ H R q => ?_, noFold h0⟩
    obtain ⟨F0, H0, F, ρ, Ex, P, sx, q, post⟩ := q
    refine (run1 (w := wE G e) sx q).mono fun y H1 ⟨F1, r, s1, f1, v1, k1⟩ => ?_
    split at k1
    · rename_i ds e1
      cases r with
      | d d =>
        have e1 : d = .list ds := e1
        subst e1
        obtain ⟨a, xs, e2, g1, g2⟩ := rv_list f1 v1 rfl
        cases (show Dq X.K F1 y (.list ds) from v1) with
        | lst p1 p2 =>
          exact ⟨_, rfl, .inl ⟨_, .inl (Rd.mono f1 p1), fun hz => post ds false _ F1 H1 k1 s1 f1 (jseq_list (.inl p1) p2) (by rw [← dpa_len p2]; exact hz)⟩⟩
      | l es fr =>
        have e1 : PyData.list es = .list ds := e1
        cases e1
        obtain ⟨a, xs, p1, p2, p3, p4, p5⟩ := v1
        subst p1
        refine ⟨a, rfl, .inl ⟨xs, .inl (.inl p2), fun hz => ?_⟩⟩
        cases fr with
        | false => exact post _ true _ F1 H1 k1 s1 f1 (jseq_listB p2 p3) (by rw [← dpa_len p3]; exact hz)
        | true =>
          refine post _ false _ (upd F1 a (.lst xs)) H1 k1 (step_frz s1 (same_upd p4) fun b hb hf => ?_) (upd_le f1 p2) (jseq_list (.inl (.inl upd_same)) (dpa_mono (same_upd p4) p3)) (by rw [← dpa_len p3]; exact hz)
          rw [upd_ne (fun z => by subst z; exact hb (p5 rfl))]
          exact hf
    · rename_i ds e1
      obtain ⟨a, xs, e2, g1, g2⟩ := rv_tup v1 e1
      subst e2
      exact ⟨a, rfl, .inr ⟨xs, SqT.mono f1 g1, fun hz => post ds false _ F1 H1 k1 s1 f1 (jseq_tup g1 g2) (by rw [← dpa_len g2]; exact hz)⟩⟩
    · exact k1.elim
  | .rng1 a, X, W, g, t, x, h, hc => by
    unfold ckIt at h
    split at h
    · obtain ⟨h, h2⟩ := ba h
      obtain ⟨h0, h1⟩ := ba h
      obtain ⟨e, g1, g2⟩ := ckG_ok h0
      subst e
      refine ⟨PI.imp (pi_range1 (Gl_of g1) (g.bo "range" (by decide)) (pa_cons (sE a X W g _ h2).pe pa_nil (starNo h1)) (starNo h1)) fun σ H R q => ?_, noFold rfl⟩
      obtain ⟨F0, H0, F, ρ, Ex, P, sx, q, post⟩ := q
      refine (run1 (w := wE G a) sx q).mono fun y H1 ⟨F1, r, s1, f1, v1, k1⟩ => ?_
      split at k1
      · rename_i j
        obtain ⟨b1, b2, k1⟩ := k1
        have hs : (sizeLine : Int) < 2 ^ 62 := by decide
        have ey := rv_int v1
        subst ey
        exact ⟨j, rfl, b2, Int.lt_of_le_of_lt b1 hs, post _ false _ F1 H1 k1 s1 f1 (jseq_rng 0 j.toNat) (by rw [rng_len]; omega)⟩
      · exact k1.elim
    · cases h
  | .rng2 a b, X, W, g, t, x, h, hc => by
    unfold ckIt at h
    split at h
    · obtain ⟨h, h4⟩ := ba h
      obtain ⟨h, h3⟩ := ba h
      obtain ⟨h, h2⟩ := ba h
      obtain ⟨h0, h1⟩ := ba h
      obtain ⟨e, g1, g2⟩ := ckG_ok h0
      subst e
      refine ⟨PI.imp (pi_range2 (Gl_of g1) (g.bo "range" (by decide)) (pa_cons (sE a X W g _ h3).pe (pa_cons (sE b X W g _ h4).pe pa_nil (starNo h2)) (starNo h1)) (by rw [starNo h1, starNo h2]; rfl) (starNo h2)) fun σ H R q => ?_, noFold rfl⟩
      obtain ⟨F0, H0, F, ρ, Ex, P, sx, q, post⟩ := q
      refine (run1 (w := wE G a) sx q).mono fun y H1 ⟨F1, r, s1, f1, v1, k1⟩ => ?_
      refine (run1 (w := wE G b) (sx.step s1 f1) k1).mono fun z H2 ⟨F2, s, s2, f2, v2, k2⟩ => ?_
      split at k2
      · obtain ⟨b1, b2, k2⟩ := k2
        have ey := rv_int v1
        have ez := rv_int v2
        subst ey ez
        exact ⟨_, _, rfl, b2, post _ false _ F2 H2 k2 (s1.trans s2) f2 (jseq_rng _ _) (by rw [rng_len]; omega)⟩
      · exact k2.elim
    · cases h
  | .enu e, X, W, g, t, x, h, hc => by
    unfold ckIt at h
    split at h
    · obtain ⟨h, h2⟩ := ba h
      obtain ⟨h0, h1⟩ := ba h
      obtain ⟨e', g1, g2⟩ := ckG_ok h0
      subst e'
      refine ⟨PI.imp (PI.inv (pi_enum (Gl_of g1) (g.bo "enumerate" (by decide)) (pa_cons (sE e X W g _ h2).pe pa_nil (starNo h1)) (starNo h1))) fun σ H R q => ?_, noFold rfl⟩
      obtain ⟨F0, H0, F, ρ, Ex, P, sx, q, post⟩ := q
      refine (run1 (w := wE G e) sx q).mono fun y H1 ⟨F1, r, s1, f1, v1, k1⟩ => ?_
      split at k1
      · rename_i ds e1
        obtain ⟨a, xs, F2, e2, p1, p2, p3, p4, p5, p6⟩ := seq_at v1 (Same.refl _) f1 e1
        subst e2
        exact ⟨a, xs, rfl, p5, fun lo => post _ _ _ F2 H1 k1 (step_frz s1 p1 p3) p2 (jseq_enum p4 p6) (by rw [enum_len, ← dpa_len p4]; exact lo a xs (.inl p5))⟩
      · exact k1.elim
    · cases h
  | .zip a b, X, W, g, t, x, h, hc => by
    unfold ckIt at h
    split at h
    · obtain ⟨h, h4⟩ := ba h
      obtain ⟨h, h3⟩ := ba h
      obtain ⟨h, h2⟩ := ba h
      obtain ⟨h0, h1⟩ := ba h
      obtain ⟨e', g1, g2⟩ := ckG_ok h0
      subst e'
      refine ⟨PI.imp (PI.inv (pi_zipA (Gl_of g1) (g.bo "zip" (by decide)) (pa_cons (sE a X W g _ h3).pe (pa_cons (sE b X W g _ h4).pe pa_nil (starNo h2)) (starNo h1)) (starNo h1) (by rw [starNo h2]; rfl))) fun σ H R q => ?_, noFold rfl⟩
      obtain ⟨F0, H0, F, ρ, Ex, P, sx, q, post⟩ := q
      refine (run1 (w := wE G a) sx q).mono fun y H1 ⟨F1, r, s1, f1, v1, k1⟩ => ?_
      refine (run1 (w := wE G b) (sx.step s1 f1) k1).mono fun z H2 ⟨F2, s, s2, f2, v2, k2⟩ => ?_
      have v1' := v1.step s2
      have v2' := v2.base s1.h
      split at k2
      · rename_i ds es e1 e2
        obtain ⟨a, xs, F3, e3, p1, p2, p3, p4, p5, p6⟩ := seq_at v1' (Same.refl _) f2 e1
        obtain ⟨a', ys, F4, e4, q1, q2, q3, q4, q5, q6⟩ := seq_at v2' p1 p2 e2
        subst e3 e4
        refine ⟨a, a', xs, ys, rfl, .inl ⟨p5, q5, fun lo => ?_⟩⟩
        refine post _ _ _ F4 H2 k2 (step_frz (step_frz (s1.trans s2) p1 p3) q1 q3) q2 (jseq_zip (dpa_mono q1 p4) q4 fun F5 H5 t1 t2 t3 => ?_) (by rw [zip_len, ← dpa_len p4]; exact Nat.le_trans (Nat.min_le_left _ _) (lo a xs (.inl p5)))
        refine ⟨p6 F5 H5 (q1.trans t1) t2 fun z => t3 ?_, q6 F5 H5 t1 t2 fun z => t3 ?_⟩
        · rw [z]; rfl
        · rw [z]; exact Bool.or_true _
      · rename_i ds es e1 e2
        obtain ⟨a, xs, e3, p1, p2⟩ := rv_tup v1' e1
        obtain ⟨a', ys, e4, q1, q2⟩ := rv_tup v2' e2
        subst e3 e4
        refine ⟨a, a', xs, ys, rfl, .inr ⟨SqT.mono f2 p1, SqT.mono f2 q1, fun lo => ?_⟩⟩
        exact post _ _ _ F2 H2 k2 (s1.trans s2) f2 (jseq_zipT p2 q2 p1 q1) (by rw [zip_len, ← dpa_len p2]; exact Nat.le_trans (Nat.min_le_left _ _) (lo a xs (.inr (SqT.mono f2 p1))))
      · exact k2.elim
    · cases h
  | .rvd e, X, W, g, t, x, h, hc => by
    unfold ckIt at h
    split at h
    · obtain ⟨h, h2⟩ := ba h
      obtain ⟨h0, h1⟩ := ba h
      obtain ⟨e', g1, g2⟩ := ckG_ok h0
      subst e'
      refine ⟨PI.imp (PI.inv (pi_revA (Gl_of g1) (g.bo "reversed" (by decide)) (sE e X W g _ h2).pe (starNo h1))) fun σ H R q => ?_, noFold rfl⟩
      obtain ⟨F0, H0, F, ρ, Ex, P, sx, q, post⟩ := q
      refine (run1 (w := wE G e) sx q).mono fun y H1 ⟨F1, r, s1, f1, v1, k1⟩ => ?_
      split at k1
      · rename_i ds e1
        obtain ⟨a, xs, F2, e2, p1, p2, p3, p4, p5, p6⟩ := seq_at v1 (Same.refl _) f1 e1
        subst e2
        exact ⟨a, xs, rfl, .inl ⟨p5, fun lo => post _ _ _ F2 H1 k1 (step_frz s1 p1 p3) p2 (jseq_revG p4 p6) (by rw [List.length_reverse, ← dpa_len p4]; exact lo a xs (.inl p5))⟩⟩
      · rename_i ds e1
        obtain ⟨a, xs, e2, p1, p2⟩ := rv_tup v1 e1
        subst e2
        exact ⟨a, xs, rfl, .inr ⟨SqT.mono f1 p1, fun lo => post _ _ _ F1 H1 k1 s1 f1 (jseq_revT p1 p2) (by rw [List.length_reverse, ← dpa_len p2]; exact lo a xs (.inr (SqT.mono f1 p1)))⟩⟩
      · exact k1.elim
    · cases h
end
end DL
end
section
set_option maxRecDepth 100000
set_option maxHeartbeats 4000000
namespace DL
open PySem PySem.Spec PyProof.Rows L2
mutual
inductive S where
  | set (i : Nat) (e : E)
  | tup (is : List Nat) (e : E)
  | par2 (i j : Nat) (a b : E)
  | app (j : Nat) (e : E)
  | ext (j : Nat) (e : E)
  | pop (j : Nat)
  | appP0 (j k : Nat)
  | setP0 (i k : Nat)
  | rev (j : Nat)
  | sset (j : Nat) (k : E) (e : E)
  | ex (e : E)
  | ret (e : E)
  | retN | pass | brk
  | ifs (c : E) (a b : Ss)
  | whl (c : E) (b : Ss)
  | for_ (tg : Tg) (it : It) (b : Ss)
  | rais (c : Nat)
  | try1 (b : Ss) (c : Nat) (h : Ss) (xs : List Nat)
  | frz (i : Nat)
inductive Ss where
  | nil
  | cons (s : S) (ss : Ss)
end
structure DE where
  nx : En → Prop
  rt : R → Prop
  bk : En → Prop
  ex : Nat → En → Prop
def forLoop (st : D → En → (En → Prop) → Prop) (body : DE → En → Prop) (E : DE) : List D → En → Prop
  | [], ρ => E.nx ρ
  | d :: ds, ρ => st d ρ fun ρ2 => body { E with nx := forLoop st body E ds, bk := E.nx } ρ2
def whileLoop (c : En → (Bool → Prop) → Prop) (body : DE → En → Prop) (E : DE) (ρ : En) : Prop :=
  ∃ I : Nat → En → Prop, (∃ n, I n ρ) ∧ ∀ n ρ, I n ρ → c ρ fun b => wIf b (body { E with nx := fun ρ' => ∃ m, m < n ∧ I m ρ', bk := E.nx } ρ) (E.nx ρ)
def stR (i : Nat) (r : R) (ρ : En) (k : En → Prop) : Prop := match r with
  | .d x => k (ρ.set i (some (.d x)))
  | .l ds true => k (ρ.set i (some (.l ds true)))
  | .l _ false => False
def ownAt (ρ : En) (i : Nat) (k : List D → Prop) : Prop := match ρ[i]? with
  | some (some (.l ds _)) => k ds
  | _ => False
def stU (is : List Nat) (r : R) (ρ : En) (k : En → Prop) : Prop := match look r with
  | .tuple ds => (match setAll ρ is ds with
    | some ρ' => k ρ'
    | none => False)
  | .list ds => (match setAll ρ is ds with
    | some ρ' => k ρ'
    | none => False)
  | _ => False
def retR (r : R) (Q : R → Prop) : Prop := match r with
  | .d x => Q (.d x)
  | .l ds true => Q (.l ds true)
  | .l _ false => False
def frzS (i : Nat) (ρ : En) (k : En → Prop) : Prop := match ρ[i]? with
  | some (some (.l ds _)) => k (ρ.set i (some (.d (.list ds))))
  | some (some (.d _)) => k ρ
  | _ => False
def isa (c d : Nat) : Bool := c == d || d == 0 || d == 7
mutual
def wS (G : Nat → DSp) : S → DE → En → Prop
  | .set i e, Z, ρ => wE G e ρ (fun c => Z.ex c ρ) fun r => stR i r ρ Z.nx
  | .tup is e, Z, ρ => wE G e ρ (fun c => Z.ex c ρ) fun r => stU is r ρ Z.nx
  | .par2 i j a b, Z, ρ => wE G a ρ (fun c => Z.ex c ρ) fun r => wE G b ρ (fun c => Z.ex c ρ) fun s => frzP r fun x => frzP s fun y => Z.nx ((ρ.set i (some (.d x))).set j (some (.d y)))
  | .app j e, Z, ρ => ownAt ρ j fun ds => wE G e ρ (fun c => Z.ex c ρ) fun r => frzP r fun x => ds.length < sizeLine ∧ Z.nx (ρ.set j (some (.l (ds ++ [x]) true)))
  | .ext j e, Z, ρ => ownAt ρ j fun ds => wE G e ρ (fun c => Z.ex c ρ) fun r => (match r with
    | .l es _ => ds.length + es.length ≤ sizeLine ∧ Z.nx (ρ.set j (some (.l (ds ++ es) true)))
    | _ => False)
  | .pop j, Z, ρ => ownAt ρ j fun ds => ds ≠ [] ∧ Z.nx (ρ.set j (some (.l ds.dropLast true)))
  | .appP0 j k, Z, ρ => ownAt ρ j fun ds => ownAt ρ k fun es => (match es with
    | x :: es => j ≠ k ∧ ds.length < sizeLine ∧ Z.nx ((ρ.set k (some (.l es true))).set j (some (.l (ds ++ [x]) true)))
    | [] => False)
  | .setP0 i k, Z, ρ => ownAt ρ k fun es => (match es with
    | x :: es => Z.nx ((ρ.set k (some (.l es true))).set i (some (.d x)))
    | [] => False)
  | .rev j, Z, ρ => ownAt ρ j fun ds => Z.nx (ρ.set j (some (.l ds.reverse true)))
  | .sset j k e, Z, ρ => ownAt ρ j fun ds => wE G e ρ (fun c => Z.ex c ρ) fun r => wE G k ρ (fun c => Z.ex c ρ) fun s => frzP r fun x => (match s with
    | .d (.int i) => (match ixN ds.length i with
      | some n => Z.nx (ρ.set j (some (.l (ds.set n x) true)))
      | none => False)
    | _ => False)
  | .ex e, Z, ρ => wE G e ρ (fun c => Z.ex c ρ) fun _ => Z.nx ρ
  | .ret e, Z, ρ => wE G e ρ (fun c => Z.ex c ρ) fun r => retR r Z.rt
  | .retN, Z, ρ => Z.rt (.d .none)
  | .pass, Z, ρ => Z.nx ρ
  | .brk, Z, ρ => Z.bk ρ
  | .ifs c a b, Z, ρ => wE G c ρ (fun c => Z.ex c ρ) fun r => wTru r fun k => wIf k (wSs G a Z ρ) (wSs G b Z ρ)
  | .whl c b, Z, ρ => whileLoop (fun ρ k => wE G c ρ (fun c => Z.ex c ρ) fun r => wTru r k) (wSs G b) Z ρ
  | .for_ tg it b, Z, ρ => wI G it ρ (fun c => Z.ex c ρ) fun ds bor => bor = false ∧ forLoop (stT tg) (wSs G b) Z ds ρ
  | .rais c, Z, ρ => Z.ex c ρ
  | .try1 b c h xs, Z, ρ => wSs G b { Z with ex := fun x ρ' => x ∈ xs ∧ wIf (isa x c) (wSs G h { Z with ex := fun _ _ => False } ρ') (Z.ex x ρ') } ρ
  | .frz i, Z, ρ => frzS i ρ Z.nx
def wSs (G : Nat → DSp) : Ss → DE → En → Prop
  | .nil, Z, ρ => Z.nx ρ
  | .cons s ss, Z, ρ => wS G s { Z with nx := fun ρ' => wSs G ss Z ρ' } ρ
end
def isTup (e : Expr) : Bool := match e with
  | .Tuple _ _ _ => true
  | _ => false
def noStar (e : Expr) : Bool := match e with
  | .Starred _ _ => false
  | _ => true
def someCell (sc : Scope) (es : List Expr) : Bool := es.any fun e => match e with
  | .Name x _ => !(sc.names.lookup x == some .local)
  | _ => false
def ckMeth (T : Tb) (N : List Str) (sc : Scope) (j : Nat) (m : Str) (o : Expr) : Bool := match o with
  | .Attribute (.Name y _) name apos => decide (name = m) && ckV N sc j y
  | _ => false
def aLine (o : Expr) : Nat := match o with
  | .Attribute _ _ apos => apos.endLine
  | _ => 0
mutual
def ckS (T : Tb) (N : List Str) (cm : Bool) (sc : Scope) : S → Stmt → Bool
  | .set i e, s => (match s with
    | .Assign [.Name y py] v pos => ckN N i y && plainX v && ckE T N cm sc e v && (match v with
      | .ListComp _ _ scope lp => (match sc.names.lookup y with
        | some .local => (py.line == lp.line) && !(scope.names.any fun (n, k) => n == y && (k == .local || k == .cell))
        | some .cell => true
        | _ => false)
      | _ => isLoc (sc.names.lookup y))
    | _ => false)
  | .tup is e, s => (match s with
    | .Assign [.Tuple es k tp] v pos => cm && plainX v && (!isTup v || someCell sc es) && ckT N sc (List.range N.length) (.tp is) (.Tuple es k tp) && ckE T N cm sc e v
    | _ => false)
  | .par2 i j a b, s => (match s with
    | .Assign [.Tuple [.Name x px, .Name y py] kt pt] (.Tuple [p, q] k2 pt2) pos => cm && ckN N i x && ckN N j y && !(i == j) && (sc.names.lookup x == some .local) && (sc.names.lookup y == some .local) && !(x == y) && (py.line == px.line) &&
        !([p, q].all (foldedForSure 8)) && !([p, q].all (constantsAlone 8)) && plainX p && plainX q && ckE T N cm sc a p && ckE T N cm sc b q
    | _ => false)
  | .app j e, s => (match s with
    | .Expr (.Call o [p] [] cp) pos => cm && ckMeth T N sc j "append" o && (aLine o == cp.line) && plainX p && ckE T N cm sc e p
    | _ => false)
  | .ext j e, s => (match s with
    | .Expr (.Call o [p] [] cp) pos => cm && ckMeth T N sc j "extend" o && (aLine o == cp.line) && plainX p && ckE T N cm sc e p
    | _ => false)
  | .pop j, s => (match s with
    | .Expr (.Call o [] [] cp) pos => cm && ckMeth T N sc j "pop" o && (aLine o == cp.line)
    | _ => false)
  | .appP0 j k, s => (match s with
    | .Expr (.Call o [.Call o2 [.Constant (.int c) _ _] [] cp2] [] cp) pos => cm && ckMeth T N sc j "append" o && (aLine o == cp.line) && ckMeth T N sc k "pop" o2 && (aLine o2 == cp2.line) && decide (c = 0)
    | _ => false)
  | .setP0 i k, s => (match s with
    | .Assign [.Name y py] (.Call o2 [.Constant (.int c) _ _] [] cp2) pos => cm && ckN N i y && isLoc (sc.names.lookup y) && ckMeth T N sc k "pop" o2 && (aLine o2 == cp2.line) && decide (c = 0)
    | _ => false)
  | .rev j, s => (match s with
    | .Expr (.Call o [] [] cp) pos => cm && ckMeth T N sc j "reverse" o && (aLine o == cp.line)
    | _ => false)
  | .sset j k e, s => (match s with
    | .Assign [.Subscript (.Name y yp) i sp] v pos => ckV N sc j y && plainX v && plainX i && ckE T N cm sc e v && ckE T N cm sc k i
    | _ => false)
  | .ex e, s => (match s with
    | .Expr v pos => plainX v && ckE T N cm sc e v && (match v with
      | .ListComp _ _ _ _ => false
      | _ => true)
    | _ => false)
  | .ret e, s => (match s with
    | .Return (some v) pos => ckE T N cm sc e v
    | _ => false)
  | .retN, s => (match s with
    | .Return none pos => true
    | _ => false)
  | .pass, s => (match s with
    | .Pass _ => true
    | _ => false)
  | .brk, s => (match s with
    | .Break _ => true
    | _ => false)
  | .ifs c a b, s => (match s with
    | .If e p q pos => ckE T N cm sc c e && ckSs T N cm sc a p && ckSs T N cm sc b q
    | _ => false)
  | .whl c b, s => (match s with
    | .While e p [] pos => cm && ckE T N cm sc c e && ckSs T N cm sc b p
    | _ => false)
  | .for_ tg it b, s => (match s with
    | .For t i p [] pos => cm && ckT N sc (List.range N.length) tg t && ckIt T N cm sc it t i && ckSs T N cm sc b p
    | _ => false)
  | .rais c, s => (match s with
    | .Raise (some (.Call (.Name x p) [.Constant (.str m) j p2] [] cp)) none pos => cm && T.xcs.contains c && ckG sc (T.xc c) x
    | _ => false)
  | .try1 b c h xs, s => (match s with
    | .Try p [.ExceptHandler (some (.Name x np)) none (q :: qs) pos'] [] [] pos => cm && xs.all (T.xcs.contains ·) && T.xcs.contains c && ckG sc (T.xc c) x && ckSs T N cm sc b p && ckSs T N false sc h (q :: qs)
    | _ => false)
  | .frz i, s => false
def ckSs (T : Tb) (N : List Str) (cm : Bool) (sc : Scope) : Ss → List Stmt → Bool
  | .nil, x => (match x with
    | [] => true
    | _ => false)
  | .cons s ss, x => (match s with
    | .frz i => ckSs T N cm sc ss x
    | _ => (match x with
      | p :: ps => ckS T N cm sc s p && ckSs T N cm sc ss ps
      | [] => false))
end
end DL
end
section
set_option maxRecDepth 100000
set_option maxHeartbeats 4000000
namespace DL
open PySem PySem.Spec PyProof.Rows L2 RZ RT
structure XcT (T : Tb) (X : Cx) (c : Nat) : Prop where
  at_ : X.mg (T.xc c) = some (clsV X.K T c)
  exc : PySem.W.excIn X.K (He.ga X.K (T.xc c)) He.veBase "ValueError.__new__" = true
  keep : PySem.W.keepIn X.K (clsV X.K T c) = true
  sub : PySem.W.subIn X.K (clsV X.K T c) (.type "BaseException") = some true
  typ : PySem.W.typeIn X.K (clsV X.K T c) = some (.type "type")
structure GS (T : Tb) (G : Nat → DSp) (n : Nat) (cm : Bool) (W : WX) (X : Cx) : Prop where
  g : GX T G n cm W X
  pa : PassesOwn (model X.prog X.w) X.A X.env X.xe
  lc : ∀ x, isLoc (X.env.scope.names.lookup x) = true → Loc X.env.scope x ∧ (X.fn x = true ∨ X.env.scope.names.lookup x = some .local)
  st : X.stack = X.env :: X.outer
  fr : X.env.frame = some X.env.locals
  kd : X.env.scope.kind = .function
  xc : ∀ c ∈ T.xcs, XcT T X c
  xm : ∀ c ∈ T.xcs, ∀ d ∈ T.xcs, PySem.W.exmOne X.K (clsV X.K T c) (clsV X.K T d) = some (isa c d)
structure Lk (K : PySem.W.Frag) (T : Tb) (W : WX) (F0 H0 F : Hp) (Z : DE) (D : Ends) : Prop where
  nx : ∀ ρ' σ' F' H', Same F F' → SR K F0 H0 F' ρ' σ' H' → Z.nx ρ' → D.nx σ' H'
  bk : ∀ ρ' σ' F' H', Same F F' → SR K F0 H0 F' ρ' σ' H' → Z.bk ρ' → D.bk σ' H'
  rt : ∀ r v F' H', Same F F' → Step F0 H0 F' H' → Same F' H' → RV K H0 F' H' r v → Z.rt r → D.rt v H'
  ex : ∀ c ρ' σ' F' H', Same F F' → SR K F0 H0 F' ρ' σ' H' → Z.ex c ρ' → W (clsV K T c) none σ' H'
def tS (K : PySem.W.Frag) (T : Tb) (W : WX) (w : DE → En → Prop) : TS := fun D σ H => ∃ (F0 H0 F : Hp) (ρ : En) (Z : DE), SR K F0 H0 F ρ σ H ∧ w Z ρ ∧ Lk K T W F0 H0 F Z D
section
variable {X : Cx} {K : PySem.W.Frag} {T : Tb} {G : Nat → DSp} {W : WX} {F0 H0 F H F' H' B : Hp} {ρ ρ' : En} {σ σ' : L2.St} {Z : DE} {D : Ends} {n : Nat} {cm : Bool}
theorem PS.imp {st : Stmt} {t t' : TS} (h : PS X st t) (i : ∀ D σ H, t' D σ H → t D σ H) : PS X st t' := ⟨fun pins s σ H D I q => h.run pins s σ H D I (i D σ H q)⟩
theorem PSs.imp {st : List Stmt} {t t' : TS} (h : PSs X st t) (i : ∀ D σ H, t' D σ H → t D σ H) : PSs X st t' := ⟨fun pins s σ H D I q => h.run pins s σ H D I (i D σ H q)⟩
theorem Lk.mono (k : Lk K T W F0 H0 F Z D) (s : Same F F') : Lk K T W F0 H0 F' Z D :=
  ⟨fun ρ σ F2 H2 a b c => k.nx ρ σ F2 H2 (s.trans a) b c, fun ρ σ F2 H2 a b c => k.bk ρ σ F2 H2 (s.trans a) b c, fun r v F2 H2 a b c d e => k.rt r v F2 H2 (s.trans a) b c d e, fun x ρ σ F2 H2 a b c => k.ex x ρ σ F2 H2 (s.trans a) b c⟩
theorem SX.at (sr : SR K F0 H0 F ρ σ H) (k : Lk K T W F0 H0 F Z D) : SX K T W F0 H0 F ρ σ H (fun c => Z.ex c ρ) :=
  ⟨sr, fun c F2 H2 h s f => k.ex c ρ σ F2 H2 s.f (sr.step s f) h⟩
theorem runS {w : En → (Nat → Prop) → (R → Prop) → Prop} {k : R → Prop} (sr : SR K F0 H0 F ρ σ H) (l : Lk K T W F0 H0 F Z D) (h : w ρ (fun c => Z.ex c ρ) k) :
    tE K T W w σ H (fun x H1 => ∃ F1 r, Step F H F1 H1 ∧ Same F1 H1 ∧ RV K H F1 H1 r x ∧ SR K F0 H0 F1 ρ σ H1 ∧ Lk K T W F0 H0 F1 Z D ∧ k r) :=
  (run1 (SX.at sr l) h).mono fun x H1 ⟨F1, r, s1, f1, v1, h1⟩ => ⟨F1, r, s1, f1, v1, sr.step s1 f1, l.mono s1.f, h1⟩
theorem SR.setR (sr : SR K F0 H0 F ρ σ H) {r : R} {x : V} (b0 : Same H0 B) (bn : ∀ (j : Nat) (es : List DL.D) (c : Bool) (a : Addr), ρ[j]? = some (some (R.l es c)) → σ[j]? = some (some (.ref a)) → B a ≠ none) (h : RV K B F H r x) (i : Nat) {k : En → Prop} (w : stR i r ρ k) :
    ∃ ρ', SR K F0 H0 F ρ' (σ.set i (some x)) H ∧ k ρ' := by
  cases r with
  | d d => exact ⟨_, sr.setD h i, w⟩
  | l ds b =>
    cases b with
    | false => exact w.elim
    | true =>
      obtain ⟨a, xs, e, h1, h2, h3, h4⟩ := h
      subst e
      refine ⟨_, sr.setL h1 h2 h3 (Same.free b0 (h4 rfl)) (fun j es c e1 e2 => ?_) i, w⟩
      exact bn j es c a e1 e2 (h4 rfl)
theorem own_nn (sr : SR K F0 H0 F ρ σ H) : ∀ (j : Nat) (es : List DL.D) (c : Bool) (a : Addr), ρ[j]? = some (some (R.l es c)) → σ[j]? = some (some (.ref a)) → H a ≠ none := fun j es c a e1 e2 => by
  obtain ⟨a', xs, g1, g2, _⟩ := sr.own j es c e1
  rw [e2] at g1
  cases g1
  exact ne_none_of g2
theorem ownAt_inv {j : Nat} {k : List DL.D → Prop} (h : ownAt ρ j k) : ∃ ds b, ρ[j]? = some (some (R.l ds b)) ∧ k ds := by
  unfold ownAt at h
  split at h
  · rename_i ds b e
    exact ⟨ds, b, e, h⟩
  · exact h.elim
theorem noSwapCell {e : Expr} {y : Str} {py : Pos} {l : Nat} {env : Env} (h : env.scope.names.lookup y = some .cell) : swapsWith e (some (.Name y py)) l env = pure false := by
  have ky : env.kindOf y = some .cell := h
  cases e <;> first
    | rfl
    | (unfold swapsWith
       simp only [ky]
       cases env.blockKind == ScopeKind.function <;> rfl)
theorem noSwapT {e : Expr} {es : List Expr} {k : Nat} {tp : Pos} {l : Nat} {env : Env} : swapsWithSole [.Tuple es k tp] e l env = pure false := by
  cases e <;> rfl
theorem noSwapSub {e o i : Expr} {tp : Pos} {l : Nat} {env : Env} : swapsWithSole [.Subscript o i tp] e l env = pure false := by
  cases e <;> rfl
theorem noStores {e tg : Expr} {env : Env} (h : isTup e = false) : swappedStores [tg] e env = pure none := by
  cases e <;> first | (cases tg <;> rfl) | (unfold isTup at h; cases h)
theorem noStoresC {e : Expr} {es : List Expr} {k : Nat} {tp : Pos} {env : Env} (h : someCell env.scope es = true) (hn : es.all (fun e => match e with | .Name _ _ => true | _ => false) = true) : swappedStores [.Tuple es k tp] e env = pure none := by
  have key : ∀ line, (es.filterMap fun
    | .Name id pos => if env.kindOf id == some .local && pos.line == line then some id else none
    | _ => none).length ≠ es.length := fun line => by
    have hle : ∀ (l : List Expr), (l.filterMap fun
      | .Name id pos => if env.kindOf id == some .local && pos.line == line then some id else none
      | _ => none).length ≤ l.length := fun l => List.length_filterMap_le _ _
    revert h
    clear hn
    induction es with
    | nil => intro h; cases h
    | cons e es ih =>
      intro h
      unfold someCell at h
      rw [List.any_cons] at h
      rcases Bool.or_eq_true_iff.mp h with z | z
      · cases e with
        | Name x p =>
          have z : (!(env.scope.names.lookup x == some .local)) = true := z
          have z2 : (env.kindOf x == some NameKind.local) = false := by
            show (env.scope.names.lookup x == some .local) = false
            simpa using z
          rw [List.filterMap_cons]
          simp only [z2, Bool.false_and, Bool.false_eq_true, if_false]
          have := hle es
          rw [List.length_cons]
          omega
        | _ => cases z
      · have := ih z
        have h2 := hle es
        rw [List.filterMap_cons]
        split
        · rw [List.length_cons]; omega
        · rw [List.length_cons, List.length_cons]; omega
  cases e with
  | Tuple vs k2 p2 =>
    unfold swappedStores
    simp only []
    have key2 := key ((es.head?.map (·.pos.line)).getD 0)
    split
    · rfl
    · split
      · rfl
      · rw [if_pos]
        rw [Bool.or_eq_true]
        left
        exact bne_iff_ne.mpr key2
  | _ => rfl
end
end DL
end
section
set_option maxRecDepth 100000
set_option maxHeartbeats 4000000
namespace DL
open PySem PySem.Spec PyProof.Rows L2 RZ RT
section
variable {X : Cx} {K : PySem.W.Frag} {T : Tb} {G : Nat → DSp} {W : WX} {F0 H0 F H F' H' B : Hp} {ρ ρ' : En} {σ σ' : L2.St} {Z : DE} {D : Ends} {n : Nat} {cm : Bool}
theorem PG.or {e : Expr} {t1 t2 : TG} (h1 : PG X e t1) (h2 : PG X e t2) : PG X e (fun v σ H Q => t1 v σ H Q ∨ t2 v σ H Q) :=
  ⟨fun pins s σ H v u Q I r h => h.elim (h1.run pins s σ H v u Q I r) (h2.run pins s σ H v u Q I r)⟩
theorem setAll_len : ∀ {is : List Nat} {ds : List DL.D} {ρ ρ' : En}, setAll ρ is ds = some ρ' → is.length = ds.length := by
  intro is
  induction is with
  | nil => intro ds ρ ρ' e; cases ds with
    | nil => rfl
    | cons _ _ => cases e
  | cons i is ih => intro ds ρ ρ' e; cases ds with
    | nil => cases e
    | cons d ds => rw [List.length_cons, List.length_cons, ih (ds := ds) e]
theorem swap2 {x y : Str} {px py pt pt2 : Pos} {kt k2 : Nat} {p q : Expr} {env : Env} (hk : env.scope.kind = .function) (hx : env.scope.names.lookup x = some .local) (hy : env.scope.names.lookup y = some .local) (hn : x ≠ y) (hl : (py.line == px.line) = true)
    (h1 : [p, q].all (foldedForSure 8) = false) (h2 : [p, q].all (constantsAlone 8) = false) (h3 : plainX p = true) (h4 : plainX q = true) :
    swappedStores [.Tuple [.Name x px, .Name y py] kt pt] (.Tuple [p, q] k2 pt2) env = pure (some [x, y]) := by
  have hb : env.blockKind = .function := by unfold Env.blockKind; rw [hk]; rfl
  have kx : env.kindOf x = some .local := hx
  have ky : env.kindOf y = some .local := hy
  have hs : ([p, q].any fun | .Starred .. => true | _ => false) = false := by
    have a : ∀ e, plainX e = true → (match e with | .Starred .. => true | _ => false) = false := fun e h => by
      cases e <;> first | rfl | (unfold plainX at h; cases h)
    rw [List.any_cons, List.any_cons, List.any_nil, a p h3, a q h4] <;> rfl
  have hd : ([x, y] : List Str).eraseDups.length = 2 := by
    have : ([x, y] : List Str).eraseDups = [x, y] := by
      rw [List.eraseDups_cons]
      have : (([y] : List Str).filter fun b => !b == x) = [y] := by
        rw [List.filter_cons, if_pos] <;> simp
        exact fun z => hn z.symm
      rw [this, List.eraseDups_cons]
      simp
    rw [this] <;> rfl
  unfold swappedStores
  simp only []
  rw [if_neg (show ¬ _ from fun z => by rw [hb] at z; simp at z)]
  refine Eq.trans (if_neg (fun z => absurd (hs.symm.trans z) (by decide))) ?_
  have e0 : (([Expr.Name x px, Expr.Name y py].head?.map (·.pos.line)).getD 0) = px.line := rfl
  rw [e0]
  simp only [List.filterMap_cons, kx, ky, hl, beq_self_eq_true, Bool.and_self, if_true, List.filterMap_nil]
  rw [if_neg (show ¬ _ from fun z => by rw [hd] at z; simp at z)]
  rw [if_neg (by rw [h1]; decide), if_neg (by rw [h2]; decide)]
theorem ckM_ok {N : List Str} {sc : Scope} {j : Nat} {m : Str} {o : Expr} (h : ckMeth T N sc j m o = true) : ∃ y yp apos, o = .Attribute (.Name y yp) m apos ∧ ckV N sc j y = true := by
  unfold ckMeth at h
  split at h
  · obtain ⟨h1, h2⟩ := ba h
    have e := of_decide_eq_true h1
    subst e
    exact ⟨_, _, _, rfl, h2⟩
  · cases h
theorem pe_meth1 {y m : Str} {yp apos cpos : Pos} {p : Expr} {j : Nat} {id : String} {r : V → List V → Hp → VK → Prop} {te : TE} (hv : ckV X.N X.env.scope j y = true) (slot : Slot "list" m id) (hty : typeOf (.builtin id) = pure (.type "method_descriptor")) (hm : MtR X id r) (hp : PE X p te) (pl : plainX p = true)
    (hline : (apos.endLine == cpos.line) = true) : PE X (.Call (.Attribute (.Name y yp) m apos) [p] [] cpos) (tBM X.K "list" r (tVar j) (tCons te tNil)) := by
  obtain ⟨h1, h2, h3, h4⟩ := ckV_ok hv
  refine pe_bm PySem.F.plainAttrs_list slot hty hm (pe_var h1 h2 h3 h4) (pa_cons hp pa_nil (starNo pl)) rfl ?_ hline (starNo pl) rfl
  rw [starNo pl] <;> rfl
theorem pe_meth0' {y m : Str} {yp apos cpos : Pos} {j : Nat} {id : String} {r : V → List V → Hp → VK → Prop} (hv : ckV X.N X.env.scope j y = true) (slot : Slot "list" m id) (hty : typeOf (.builtin id) = pure (.type "method_descriptor")) (hm : MtR X id r)
    (hline : (apos.endLine == cpos.line) = true) : PE X (.Call (.Attribute (.Name y yp) m apos) [] [] cpos) (tBM0 X.K "list" r (tVar j)) := by
  obtain ⟨h1, h2, h3, h4⟩ := ckV_ok hv
  exact pe_bm0 PySem.F.plainAttrs_list slot hty hm (pe_var h1 h2 h3 h4) rfl hline
end
theorem allNames {N : List Str} {sc : Scope} {ok : List Nat} : ∀ {is : List Nat} {es : List Expr}, es.length = is.length → ((es.zip is).all fun p => match p.1 with
      | .Name x _ => ckN N p.2 x && isLoc (sc.names.lookup x) && ok.contains p.2
      | _ => false) = true → es.all (fun e => match e with | .Name _ _ => true | _ => false) = true
  | [], [], _, _ => rfl
  | [], _ :: _, h, _ => by simp at h
  | _ :: _, [], h, _ => by simp at h
  | i :: is, e1 :: es, c1, c2 => by
    rw [List.zip_cons_cons, List.all_cons] at c2
    obtain ⟨d1, d2⟩ := ba c2
    rw [List.all_cons, allNames (is := is) (es := es) (by simpa using c1) d2]
    cases e1 <;> first | rfl | cases d1
theorem gs_tr {T : Tb} {G : Nat → DSp} {n : Nat} {cm : Bool} {W W' : WX} {X : Cx} {pn : List (Addr × Obj)} {xe : Value → Shared → Prop} (g : GS T G n cm W X) (tk' : Takes (X.tr pn xe) W') (pa' : PassesOwn (model X.prog X.w) X.A X.env xe) : GS T G n cm W' (X.tr pn xe) where
  g := ⟨g.g.room, g.g.calm, g.g.hu, fun f hf => FnT.mk (g.g.fns f hf).ex, g.g.gl, g.g.bi, g.g.bo, tk', g.g.nd⟩
  pa := pa'
  lc := g.lc
  st := g.st
  fr := g.fr
  kd := g.kd
  xc := fun c hc => let z := g.xc c hc; ⟨z.at_, z.exc, z.keep, z.sub, z.typ⟩
  xm := g.xm
theorem gs_suite {T : Tb} {G : Nat → DSp} {n : Nat} {cm : Bool} {W : WX} {X : Cx} {a : Addr} {pn : List (Addr × Obj)} (g : GS T G n cm W X) : GS T G n false W0 (X.suite a pn) where
  g := ⟨(fun z => nomatch z), (fun z => nomatch z), g.g.hu, fun f hf => FnT.mk (g.g.fns f hf).ex, g.g.gl, g.g.bi, g.g.bo, takes0, g.g.nd⟩
  pa := PassesOwn.never
  lc := g.lc
  st := g.st
  fr := g.fr
  kd := g.kd
  xc := fun c hc => let z := g.xc c hc; ⟨z.at_, z.exc, z.keep, z.sub, z.typ⟩
  xm := g.xm
mutual
theorem sS {T : Tb} {G : Nat → DSp} {n : Nat} : ∀ (s : S) (cm : Bool) (X : Cx) (W : WX) (g : GS T G n cm W X) (st : Stmt), ckS T X.N cm X.env.scope s st = true → PS X st (tS X.K T W (wS G s))
  | .set i e, cm, X, W, g, st, h => by
    unfold ckS at h
    split at h
    · rename_i y py v pos
      obtain ⟨h, h3⟩ := ba h
      obtain ⟨h, h2⟩ := ba h
      obtain ⟨h0, h1⟩ := ba h
      have h0 : X.N[i]? = some y := of_decide_eq_true h0
      have im : ∀ D σ H, tS X.K T W (wS G (.set i e)) D σ H → tAsg (tE X.K T W (wE G e)) (gName i) D σ H := fun D σ H q => by
        obtain ⟨F0, H0, F, ρ, Z, sr, w, l⟩ := q
        unfold wS at w
        refine (runS (w := wE G e) sr l w).mono fun x H1 ⟨F1, r, s1, f1, v1, sr1, l1, k1⟩ => ?_
        obtain ⟨ρ', sr2, k2⟩ := sr1.setR (B := H) sr.ent.h (own_nn sr) v1 i k1
        exact l1.nx _ _ _ _ (Same.refl _) sr2 k2
      cases v with
      | ListComp e1 gs scope lp =>
        have h3 : (match X.env.scope.names.lookup y with
          | some .local => (py.line == lp.line) && !(scope.names.any fun (n, k) => n == y && (k == .local || k == .cell))
          | some .cell => true
          | _ => false) = true := h3
        cases hk : X.env.scope.names.lookup y with
        | none => rw [hk] at h3; cases h3
        | some kd =>
          rw [hk] at h3
          cases kd with
          | «local» =>
            obtain ⟨hl, ha⟩ := ba h3
            have ha : (scope.names.any fun (n, k) => n == y && (k == .local || k == .cell)) = false := by simpa using ha
            cases e with
            | lc elt tg it cond own =>
              cases gs with
              | nil => unfold ckE at h2; exact absurd h2 Bool.false_ne_true
              | cons g0 gs =>
                obtain ⟨t, i2, ifs, asy⟩ := g0
                cases gs with
                | cons _ _ =>
                  unfold ckE at h2
                  split at h2
                  · rename_i heq
                    cases heq
                  · cases h2
                | nil =>
                  by_cases ha0 : asy = 0
                  case neg =>
                    unfold ckE at h2
                    split at h2
                    · rename_i heq
                      cases heq
                      exact absurd rfl ha0
                    · cases h2
                  case pos =>
                    subst ha0
                    unfold ckE at h2
                    have h2 : (cm && ckIt T X.N cm X.env.scope it t i2 && blkC X.N X.env.scope scope own && ckT X.N scope (own.map (·.2)) tg t && ckE T X.N cm (relS scope X.env.scope) elt e1 && ckCond T X.N cm (relS scope X.env.scope) cond ifs) = true := h2
                    obtain ⟨h2, h6⟩ := ba h2
                    obtain ⟨h2, h5⟩ := ba h2
                    obtain ⟨h2, h4⟩ := ba h2
                    obtain ⟨h2, h3'⟩ := ba h2
                    obtain ⟨hc, h2⟩ := ba h2
                    have ok := blkOk_by h3'
                    obtain ⟨pi, nf⟩ := sI it X W g.g t i2 h2 (g.g.calm hc)
                    have hg := fun (s : Shared) (H : Hp) (C : Addr) (cl : List (Str × Addr)) (fp : List Addr) => pg_of (X := X.blk s H scope (compEnvC scope cl C X.env) fp) (sc := scope) blk_loc g.g.nd (g.g.calm hc) h4
                    have ht := fun (s : Shared) (H : Hp) (C : Addr) (cl : List (Str × Addr)) (fp : List Addr) => sCond cond (X.blk s H scope (compEnvC scope cl C X.env) fp) (gx_blk g.g) ifs h6
                    have he := fun (s : Shared) (H : Hp) (C : Addr) (cl : List (Str × Addr)) (fp : List Addr) => (sE elt (X.blk s H scope (compEnvC scope cl C X.env) fp) W0 (gx_blk g.g) e1 h5).pe
                    exact PS.imp (ps_setLc (g.g.calm hc) g.g.nd h0 hk (sw_true g.kd hk hl ha) pi ok hg ht he nf) fun D σ H q => sLc (Q := fun x H1 => gName i x σ H1 D.nx) g.g (g.g.calm hc) pi ok hg ht he nf (ckT_own h4) (pos := lp) (im D σ H q)
            | _ => unfold ckE at h2; exact absurd h2 Bool.false_ne_true
          | cell => exact PS.imp (ps_set g.g.nd h0 (.inr hk) (sE e X W g.g _ h2).pe (noSwapCell hk) (g.lc y (by rw [hk]; rfl)).2) im
          | _ => cases h3
      | _ =>
        obtain ⟨l1, l2⟩ := g.lc y h3
        exact PS.imp (ps_set g.g.nd h0 l1 (sE e X W g.g _ h2).pe (noSwap h1 fun a b c d z => by cases z) l2) im
    · cases h
  | .tup is e, cm, X, W, g, st, h => by
    unfold ckS at h
    split at h
    · rename_i es k tp v pos
      obtain ⟨h, h4⟩ := ba h
      obtain ⟨h, h3⟩ := ba h
      obtain ⟨h, h2⟩ := ba h
      obtain ⟨hc, h1⟩ := ba h
      have hc := g.g.calm hc
      have h3' := h3
      unfold ckT at h3'
      obtain ⟨c1, c2⟩ := ba h3'
      have c1 : es.length = is.length := of_decide_eq_true c1
      obtain ⟨p1, p2, p3⟩ := pgs_of g.lc g.g.nd c1 c2
      have hw : swappedStores [.Tuple es k tp] v X.env = pure none := by
        rcases Bool.or_eq_true_iff.mp h2 with z | z
        · exact noStores (by simpa using z)
        · exact noStoresC z (allNames c1 c2)
      refine PS.imp (ps_asg (sE e X W g.g _ h4).pe (PG.or (pg_tup hc p1 p2 p3) (pg_lst hc p1 p2 p3)) noSwapT hw rfl) fun D σ H q => ?_
      obtain ⟨F0, H0, F, ρ, Z, sr, w, l⟩ := q
      unfold wS at w
      refine (runS (w := wE G e) sr l w).mono fun x H1 ⟨F1, r, s1, f1, v1, sr1, l1, k1⟩ => ?_
      unfold stU at k1
      split at k1
      · rename_i ds e1
        obtain ⟨a, xs, e2, q1, q2⟩ := rv_tup v1 e1
        subst e2
        split at k1
        · rename_i ρ' e3
          refine .inl ⟨a, xs, rfl, SqT.mono f1 q1, by rw [dpa_len q2, setAll_len e3], gT_all sr1 q2 e3 sr1 fun σ' s' _ => l1.nx _ _ _ _ (Same.refl _) s' k1⟩
        · exact k1.elim
      · rename_i ds e1
        obtain ⟨a, xs, e2, q1, q2⟩ := rv_list f1 v1 e1
        subst e2
        split at k1
        · rename_i ρ' e3
          refine .inr ⟨a, xs, rfl, .inl q1, by rw [dpa_len q2, setAll_len e3], gT_all sr1 q2 e3 sr1 fun σ' s' _ => l1.nx _ _ _ _ (Same.refl _) s' k1⟩
        · exact k1.elim
      · exact k1.elim
    · cases h
  | .par2 i j a b, cm, X, W, g, st, h => by
    unfold ckS at h
    split at h
    · rename_i x px y py kt pt p q k2 pt2 pos
      obtain ⟨h, c13⟩ := ba h
      obtain ⟨h, c12⟩ := ba h
      obtain ⟨h, c11⟩ := ba h
      obtain ⟨h, c10⟩ := ba h
      obtain ⟨h, c9⟩ := ba h
      obtain ⟨h, c8⟩ := ba h
      obtain ⟨h, c7⟩ := ba h
      obtain ⟨h, c6⟩ := ba h
      obtain ⟨h, c5⟩ := ba h
      obtain ⟨h, c4⟩ := ba h
      obtain ⟨h, c3⟩ := ba h
      obtain ⟨h, c2⟩ := ba h
      obtain ⟨hc, c1⟩ := ba h
      have hij : i ≠ j := by simpa using c3
      have hx : X.env.scope.names.lookup x = some .local := by simpa using c4
      have hy : X.env.scope.names.lookup y = some .local := by simpa using c5
      have hxy : x ≠ y := by simpa using c6
      refine PS.imp (ps_par (g.g.calm hc) g.g.nd (of_decide_eq_true c1) (of_decide_eq_true c2) hij hx hy (pa_cons (sE a X W g.g _ c12).pe (pa_cons (sE b X W g.g _ c13).pe pa_nil (starNo c11)) (starNo c10))
        (swap2 g.kd hx hy hxy c7 (Bool.not_eq_true' _ ▸ c8) (Bool.not_eq_true' _ ▸ c9) c10 c11) noSwapT) fun D σ H q => ?_
      obtain ⟨F0, H0, F, ρ, Z, sr, w, l⟩ := q
      unfold wS at w
      refine (runS (w := wE G a) sr l w).mono fun u H1 ⟨F1, r, s1, f1, v1, sr1, l1, k1⟩ => ?_
      refine (runS (w := wE G b) sr1 l1 k1).mono fun v H2 ⟨F2, s, s2, f2, v2, sr2, l2, k2⟩ => ?_
      refine ⟨u, v, rfl, ?_⟩
      have k3 : wArgs [r, s] (fun ds => ∃ x y, ds = [x, y] ∧ Z.nx ((ρ.set i (some (.d x))).set j (some (.d y)))) := by
        show frzP r fun x => frzP s fun y => _
        unfold frzP at k2 ⊢
        cases e1 : frz r with
        | none => rw [e1] at k2; exact k2.elim
        | some x =>
          rw [e1] at k2
          cases e2 : frz s with
          | none => rw [e2] at k2; exact k2.elim
          | some y =>
            rw [e2] at k2
            exact ⟨x, y, rfl, k2⟩
      have rvs : RVs X.K H F2 H2 [r, s] [u, v] := ⟨u, [v], rfl, v1.step s2, v, [], rfl, v2.base s1.h, rfl⟩
      obtain ⟨F3, ds, a1, a2, a3, a4, x, y, e3, k4⟩ := args_at rvs (Same.refl _) f2 k3
      subst e3
      cases a3 with
      | cons d1 a3 =>
        cases a3 with
        | cons d2 a3 =>
          have st := step_frz (s1.trans s2) a1 a4
          have sr3 := sr.step st a2
          exact l2.nx _ _ _ _ a1 ((sr3.setD d1 i).setD d2 j) k4
    · cases h
  | .app j e, cm, X, W, g, st, h => by
    unfold ckS at h
    split at h
    · rename_i o p cp pos
      obtain ⟨h, c5⟩ := ba h
      obtain ⟨h, c4⟩ := ba h
      obtain ⟨h, c3⟩ := ba h
      obtain ⟨hc, c2⟩ := ba h
      obtain ⟨y, yp, apos, e1, hv⟩ := ckM_ok c2
      subst e1
      refine PS.imp (ps_expr (pe_meth1 hv PySem.F.slot_list_append PySem.F.type_list_append mt_append (sE e X W g.g _ c5).pe c4 c3)) fun D σ H q => ?_
      obtain ⟨F0, H0, F, ρ, Z, sr, w, l⟩ := q
      unfold wS at w
      obtain ⟨ds, b, e1, w⟩ := ownAt_inv w
      obtain ⟨a0, xs0, g1, g2, g3, g4, g5⟩ := sr.own j ds b e1
      refine ⟨_, g1, .inl ⟨rfl, xs0, .inl (.inl g2)⟩, ?_⟩
      refine (runS (w := wE G e) sr l w).mono fun x H1 ⟨F1, r, s1, f1, v1, sr1, l1, k1⟩ => ?_
      obtain ⟨F2, xd, a1, a2, a3, a4, k2, k3⟩ := frzP_ok v1 f1 k1
      have sr2 := sr.step (step_frz s1 a1 a4) a2
      obtain ⟨a', xs, p1, p2, p3, p4, p5⟩ := sr2.own j ds b e1
      rw [g1] at p1
      cases p1
      refine ⟨a0, xs, x, rfl, rfl, p2, by rw [dpa_len p3]; exact k2, ?_⟩
      exact l1.nx _ _ _ _ a1 (sr2.put e1 g1 (dpa_app p3 (.cons a3 .nil))) k3
    · cases h
  | .ext j e, cm, X, W, g, st, h => by
    unfold ckS at h
    split at h
    · rename_i o p cp pos
      obtain ⟨h, c5⟩ := ba h
      obtain ⟨h, c4⟩ := ba h
      obtain ⟨h, c3⟩ := ba h
      obtain ⟨hc, c2⟩ := ba h
      obtain ⟨y, yp, apos, e1, hv⟩ := ckM_ok c2
      subst e1
      refine PS.imp (ps_expr (pe_meth1 hv PySem.F.slot_list_extend PySem.F.type_list_extend mt_extend (sE e X W g.g _ c5).pe c4 c3)) fun D σ H q => ?_
      obtain ⟨F0, H0, F, ρ, Z, sr, w, l⟩ := q
      unfold wS at w
      obtain ⟨ds, b, e1, w⟩ := ownAt_inv w
      obtain ⟨a0, xs0, g1, g2, g3, g4, g5⟩ := sr.own j ds b e1
      refine ⟨_, g1, .inl ⟨rfl, xs0, .inl (.inl g2)⟩, ?_⟩
      refine (runS (w := wE G e) sr l w).mono fun x H1 ⟨F1, r, s1, f1, v1, sr1, l1, k1⟩ => ?_
      split at k1
      · rename_i es fr
        obtain ⟨a', xs, p1, p2, p3, p4, p5⟩ := sr1.own j ds b e1
        rw [g1] at p1
        cases p1
        obtain ⟨a2, zs, q1, q2, q3, q4, q5⟩ := v1
        subst q1
        refine ⟨a0, a2, xs, zs, rfl, rfl, p2, q2, by rw [dpa_len p3, dpa_len q3]; exact k1.1, ?_⟩
        exact l1.nx _ _ _ _ (Same.refl _) (sr1.put e1 g1 (dpa_app p3 q3)) k1.2
      · exact k1.elim
    · cases h
  | .pop j, cm, X, W, g, st, h => by
    unfold ckS at h
    split at h
    · rename_i o cp pos
      obtain ⟨h, c3⟩ := ba h
      obtain ⟨hc, c2⟩ := ba h
      obtain ⟨y, yp, apos, e1, hv⟩ := ckM_ok c2
      subst e1
      refine PS.imp (ps_expr (pe_meth0' hv PySem.F.slot_list_pop PySem.F.type_list_pop mt_pop c3)) fun D σ H q => ?_
      obtain ⟨F0, H0, F, ρ, Z, sr, w, l⟩ := q
      unfold wS at w
      obtain ⟨ds, b, e1, w1, w2⟩ := ownAt_inv w
      obtain ⟨a0, xs, g1, g2, g3, g4, g5⟩ := sr.own j ds b e1
      have hl := dpa_len g3
      have hne : xs ≠ [] := fun z => by subst z; exact w1 (List.length_eq_zero_iff.mp hl.symm)
      have hp := List.length_pos_iff.mpr hne
      refine ⟨_, g1, .inl ⟨rfl, xs, .inl (.inl g2)⟩, a0, xs, xs[xs.length - 1]'(by omega), rfl, rfl, g2, List.getElem?_eq_getElem (by omega), ?_⟩
      exact l.nx _ _ _ _ (Same.refl _) (sr.put e1 g1 (dpa_dropLast g3)) w2
    · cases h
  | .appP0 j k, cm, X, W, g, st, h => by
    unfold ckS at h
    split at h
    · rename_i o o2 c i1 i2 cp2 cp pos
      obtain ⟨h, c6⟩ := ba h
      obtain ⟨h, c5⟩ := ba h
      obtain ⟨h, c4⟩ := ba h
      obtain ⟨h, c3⟩ := ba h
      obtain ⟨hc, c2⟩ := ba h
      obtain ⟨y, yp, apos, e1, hv⟩ := ckM_ok c2
      obtain ⟨y2, yp2, apos2, e2, hv2⟩ := ckM_ok c4
      have e3 := of_decide_eq_true c6
      subst e1 e2 e3
      refine PS.imp (ps_expr (pe_meth1 hv PySem.F.slot_list_append PySem.F.type_list_append mt_append (pe_meth1 hv2 PySem.F.slot_list_pop PySem.F.type_list_pop mt_popAt pe_int rfl c5) rfl c3)) fun D σ H q => ?_
      obtain ⟨F0, H0, F, ρ, Z, sr, w, l⟩ := q
      unfold wS at w
      obtain ⟨ds, b, e1, w⟩ := ownAt_inv w
      obtain ⟨es, b2, e2, w⟩ := ownAt_inv w
      split at w
      · rename_i x es
        obtain ⟨w0, w1, w2⟩ := w
        obtain ⟨a0, xs, g1, g2, g3, g4, g5⟩ := sr.own j ds b e1
        obtain ⟨a1, ys, p1, p2, p3, p4, p5⟩ := sr.own k _ b2 e2
        cases p3 with
        | cons d1 p3 =>
          rename_i y ys
          have sr2 := sr.put e2 p1 p3
          have e1' : (ρ.set k (some (R.l es true)))[j]? = some (some (R.l ds b)) := by rw [List.getElem?_set_ne (fun z => w0 z.symm)]; exact e1
          obtain ⟨a0', xs', g1', g2', g3', _, _⟩ := sr2.own j ds b e1'
          rw [g1] at g1'
          cases g1'
          refine ⟨_, g1, .inl ⟨rfl, xs, .inl (.inl g2)⟩, _, p1, .inl ⟨rfl, _, .inl (.inl p2)⟩, a1, y :: ys, 0, 0, y, rfl, rfl, p2, by decide, by decide, seqIndex_of (by decide) (by rw [List.length_cons]; omega), rfl, ?_⟩
          refine ⟨a0, xs', y, rfl, rfl, g2', by rw [dpa_len g3']; exact w1, ?_⟩
          exact l.nx _ _ _ _ (Same.refl _) (sr2.put e1' g1 (dpa_app g3' (.cons d1 .nil))) w2
      · exact w.elim
    · cases h
  | .setP0 i k, cm, X, W, g, st, h => by
    unfold ckS at h
    split at h
    · rename_i y py o2 c i1 i2 cp2 pos
      obtain ⟨h, c6⟩ := ba h
      obtain ⟨h, c5⟩ := ba h
      obtain ⟨h, c4⟩ := ba h
      obtain ⟨h, c3⟩ := ba h
      obtain ⟨hc, c2⟩ := ba h
      obtain ⟨y2, yp2, apos2, e2, hv2⟩ := ckM_ok c4
      have e3 := of_decide_eq_true c6
      subst e2 e3
      obtain ⟨l1, l2⟩ := g.lc y c3
      refine PS.imp (ps_set g.g.nd (of_decide_eq_true c2) l1 (pe_meth1 hv2 PySem.F.slot_list_pop PySem.F.type_list_pop mt_popAt pe_int rfl c5) rfl l2) fun D σ H q => ?_
      obtain ⟨F0, H0, F, ρ, Z, sr, w, l⟩ := q
      unfold wS at w
      obtain ⟨es, b2, e2, w⟩ := ownAt_inv w
      split at w
      · rename_i x es
        obtain ⟨a1, ys, p1, p2, p3, p4, p5⟩ := sr.own k _ b2 e2
        cases p3 with
        | cons d1 p3 =>
          rename_i y ys
          have sr2 := sr.put e2 p1 p3
          refine ⟨_, p1, .inl ⟨rfl, _, .inl (.inl p2)⟩, a1, y :: ys, 0, 0, y, rfl, rfl, p2, by decide, by decide, seqIndex_of (by decide) (by rw [List.length_cons]; omega), rfl, ?_⟩
          exact l.nx _ _ _ _ (Same.refl _) (sr2.setD d1 i) w
      · exact w.elim
    · cases h
  | .rev j, cm, X, W, g, st, h => by
    unfold ckS at h
    split at h
    · rename_i o cp pos
      obtain ⟨h, c3⟩ := ba h
      obtain ⟨hc, c2⟩ := ba h
      obtain ⟨y, yp, apos, e1, hv⟩ := ckM_ok c2
      subst e1
      refine PS.imp (ps_expr (pe_meth0' hv PySem.F.slot_list_reverse PySem.F.type_list_reverse mt_reverse c3)) fun D σ H q => ?_
      obtain ⟨F0, H0, F, ρ, Z, sr, w, l⟩ := q
      unfold wS at w
      obtain ⟨ds, b, e1, w2⟩ := ownAt_inv w
      obtain ⟨a0, xs, g1, g2, g3, g4, g5⟩ := sr.own j ds b e1
      refine ⟨_, g1, .inl ⟨rfl, xs, .inl (.inl g2)⟩, a0, xs, rfl, rfl, g2, ?_⟩
      exact l.nx _ _ _ _ (Same.refl _) (sr.put e1 g1 (dpa_rev g3)) w2
    · cases h
  | .sset j k e, cm, X, W, g, st, h => by
    unfold ckS at h
    split at h
    · rename_i y yp i sp v pos
      obtain ⟨h, c5⟩ := ba h
      obtain ⟨h, c4⟩ := ba h
      obtain ⟨h, c3⟩ := ba h
      obtain ⟨c1, c2⟩ := ba h
      obtain ⟨h1, h2, h3, h4⟩ := ckV_ok c1
      have hst : swappedStores [.Subscript (.Name y yp) i sp] v X.env = pure none := by cases v <;> rfl
      refine PS.imp (ps_asg (sE e X W g.g _ c4).pe (pg_sub (pe_var h1 h2 h3 h4) (sE k X W g.g _ c5).pe set_list (by intro v; cases i <;> first | rfl | (unfold plainX at c3; cases c3))) noSwapSub hst (by rfl)) fun D σ H q => ?_
      obtain ⟨F0, H0, F, ρ, Z, sr, w, l⟩ := q
      unfold wS at w
      obtain ⟨ds, b, e1, w⟩ := ownAt_inv w
      obtain ⟨a0, xs0, g1, g2, g3, g4, g5⟩ := sr.own j ds b e1
      refine (runS (w := wE G e) sr l w).mono fun x H1 ⟨F1, r, s1, f1, v1, sr1, l1, k1⟩ => ?_
      refine ⟨_, g1, ?_⟩
      refine (runS (w := wE G k) sr1 l1 k1).mono fun y H2 ⟨F2, s, s2, f2, v2, sr2, l2, k2⟩ => ?_
      obtain ⟨F3, xd, a1, a2, a3, a4, k3⟩ := frzP_ok (v1.step s2) f2 k2
      split at k3
      · rename_i i
        split at k3
        · rename_i m e3
          have ey := rv_int v2
          subst ey
          have sr3 := sr.step (step_frz (s1.trans s2) a1 a4) a2
          obtain ⟨a', xs, p1, p2, p3, p4, p5⟩ := sr3.own j ds b e1
          rw [g1] at p1
          cases p1
          refine ⟨a0, xs, i, m, rfl, rfl, p2, by rw [dpa_len p3]; exact e3, ?_⟩
          exact l2.nx _ _ _ _ a1 (sr3.put e1 g1 (dpa_set m a3 p3)) k3
        · exact k3.elim
      · exact k3.elim
    · cases h
  | .ex e, cm, X, W, g, st, h => by
    unfold ckS at h
    split at h
    · rename_i v pos
      obtain ⟨h, c3⟩ := ba h
      obtain ⟨c1, c2⟩ := ba h
      refine PS.imp (ps_expr (sE e X W g.g _ c2).pe (noSwap c1 fun a b c d z => by subst z; cases c3)) fun D σ H q => ?_
      obtain ⟨F0, H0, F, ρ, Z, sr, w, l⟩ := q
      unfold wS at w
      refine (runS (w := wE G e) sr l w).mono fun x H1 ⟨F1, r, s1, f1, v1, sr1, l1, k1⟩ => ?_
      exact l1.nx _ _ _ _ (Same.refl _) sr1 k1
    · cases h
  | .ret e, cm, X, W, g, st, h => by
    unfold ckS at h
    split at h
    · refine PS.imp (ps_ret (sE e X W g.g _ h).pe) fun D σ H q => ?_
      obtain ⟨F0, H0, F, ρ, Z, sr, w, l⟩ := q
      unfold wS at w
      refine (runS (w := wE G e) sr l w).mono fun x H1 ⟨F1, r, s1, f1, v1, sr1, l1, k1⟩ => ?_
      cases r with
      | d d => exact l1.rt _ _ _ _ (Same.refl _) sr1.ent f1 (v1.base sr.ent.h) k1
      | l ds b =>
        cases b with
        | false => exact k1.elim
        | true => exact l1.rt (.l ds true) _ _ _ (Same.refl _) sr1.ent f1 (v1.base sr.ent.h) k1
    · cases h
  | .retN, cm, X, W, g, st, h => by
    unfold ckS at h
    split at h
    · refine PS.imp ps_retN fun D σ H q => ?_
      obtain ⟨F0, H0, F, ρ, Z, sr, w, l⟩ := q
      exact l.rt (.d .none) _ _ _ (Same.refl _) sr.ent sr.fh (show Dq _ _ _ _ from Dq.non) w
    · cases h
  | .pass, cm, X, W, g, st, h => by
    unfold ckS at h
    split at h
    · refine PS.imp ps_pass fun D σ H q => ?_
      obtain ⟨F0, H0, F, ρ, Z, sr, w, l⟩ := q
      exact l.nx _ _ _ _ (Same.refl _) sr w
    · cases h
  | .brk, cm, X, W, g, st, h => by
    unfold ckS at h
    split at h
    · refine PS.imp ps_break fun D σ H q => ?_
      obtain ⟨F0, H0, F, ρ, Z, sr, w, l⟩ := q
      exact l.bk _ _ _ _ (Same.refl _) sr w
    · cases h
  | .ifs c a b, cm, X, W, g, st, h => by
    unfold ckS at h
    split at h
    · rename_i e p q pos
      obtain ⟨h, c3⟩ := ba h
      obtain ⟨c1, c2⟩ := ba h
      refine PS.imp (ps_if (sE c X W g.g _ c1).pt (sSs a cm X W g _ c2) (sSs b cm X W g _ c3)) fun D σ H q => ?_
      obtain ⟨F0, H0, F, ρ, Z, sr, w, l⟩ := q
      unfold wS at w
      refine (runS (w := wE G c) sr l w).mono fun x H1 ⟨F1, r, s1, f1, v1, sr1, l1, k1⟩ => ?_
      obtain ⟨k, e1, zz⟩ := wTru_inv k1
      subst e1
      refine ⟨k, rv_bool v1, ?_⟩
      cases k with
      | true =>
        have zz := wIf_t zz
        rw [if_pos rfl]
        exact ⟨F0, H0, F1, ρ, Z, sr1, zz, l1⟩
      | false =>
        have zz := wIf_f zz
        rw [if_neg Bool.false_ne_true]
        exact ⟨F0, H0, F1, ρ, Z, sr1, zz, l1⟩
    · cases h
  | .whl c b, cm, X, W, g, st, h => by
    unfold ckS at h
    split at h
    · rename_i e p pos
      obtain ⟨h, c2⟩ := ba h
      obtain ⟨hc, c1⟩ := ba h
      refine PS.imp (ps_while g.pa (sE c X W g.g _ c1).pt (sSs b cm X W g _ c2)) fun D σ H q => ?_
      obtain ⟨F0, H0, F, ρ, Z, sr, w, l⟩ := q
      unfold wS at w
      obtain ⟨I, ⟨m0, i0⟩, turn⟩ := w
      refine ⟨fun m σ' H' => ∃ F' ρ', Same F F' ∧ SR X.K F0 H0 F' ρ' σ' H' ∧ I m ρ', ⟨m0, F, ρ, Same.refl _, sr, i0⟩, ?_⟩
      rintro m σ1 H1 ⟨F1, ρ1, sf, sr1, i1⟩
      have t1 := turn m ρ1 i1
      have l1 := l.mono sf
      refine (runS (w := wE G c) sr1 l1 t1).mono fun x H2 ⟨F2, r, s2, f2, v2, sr2, l2, k2⟩ => ?_
      obtain ⟨k, e1, zz⟩ := wTru_inv k2
      subst e1
      refine ⟨k, rv_bool v2, ?_⟩
      cases k with
      | true =>
        have zz := wIf_t zz
        rw [if_pos rfl]
        refine ⟨fun σ' H' => ∃ m', m' < m ∧ ∃ F' ρ', Same F F' ∧ SR X.K F0 H0 F' ρ' σ' H' ∧ I m' ρ', fun σ' H' z => z, ?_⟩
        refine ⟨F0, H0, F2, ρ1, _, sr2, zz, ⟨fun ρ' σ' F' H' a b c => ?_, fun ρ' σ' F' H' a b c => l2.nx ρ' σ' F' H' a b c, l2.rt, l2.ex⟩⟩
        obtain ⟨m', hm, c⟩ := c
        exact ⟨m', hm, F', ρ', sf.trans (s2.f.trans a), b, c⟩
      | false =>
        have zz := wIf_f zz
        rw [if_neg Bool.false_ne_true]
        exact l2.nx _ _ _ _ (Same.refl _) sr2 zz
    · cases h
  | .for_ tg it b, cm, X, W, g, st, h => by
    unfold ckS at h
    split at h
    · rename_i t i p pos
      obtain ⟨h, c3⟩ := ba h
      obtain ⟨h, c2⟩ := ba h
      obtain ⟨hc, c1⟩ := ba h
      have hc := g.g.calm hc
      obtain ⟨pi, nf⟩ := sI it X W g.g t i c2 hc
      refine PS.imp (ps_for g.pa hc pi (pg_of g.lc g.g.nd hc c1) (sSs b cm X W g _ c3) nf) fun D σ H q => ?_
      obtain ⟨F0, H0, F, ρ, Z, sr, w, l⟩ := q
      unfold wS at w
      refine ⟨F0, H0, F, ρ, _, _, SX.at sr l, w, fun ds b J F1 H1 hl s1 f1 js hz => ?_⟩
      obtain ⟨hb, hl⟩ := hl
      subst hb
      have l1 := l.mono s1.f
      have sr1 := sr.step s1 f1
      refine ⟨fun i m σ' H' => m = ds.length - i ∧ i ≤ ds.length ∧ ∃ F' ρ', Same F1 F' ∧ SR X.K F0 H0 F' ρ' σ' H' ∧ forLoop (stT tg) (wSs G b) Z (ds.drop i) ρ', ⟨ds.length, by simp, Nat.zero_le _, F1, ρ, Same.refl _, sr1, by simpa using hl⟩, ?_⟩
      rintro i m σ2 H2 ⟨rfl, hi2, F2, ρ2, sf, sr2, hw⟩
      have j2 := js F2 H2 sf sr2.fh (fun z => nomatch z)
      have l2 := l1.mono sf
      by_cases hlt : i < ds.length
      · obtain ⟨d, hd⟩ : ∃ d, ds[i]? = some d := ⟨ds[i], List.getElem?_eq_getElem hlt⟩
        obtain ⟨go, yl⟩ := j2.1 i d hd
        have ed : ds.drop i = d :: ds.drop (i + 1) := by
          rw [List.drop_eq_getElem_cons hlt]
          rw [List.getElem?_eq_getElem hlt] at hd
          rw [Option.some.inj hd]
        rw [ed] at hw
        refine .inr ⟨go, fun σ' H' => ∃ F' ρ', Same F1 F' ∧ SR X.K F0 H0 F' ρ' σ' H' ∧ forLoop (stT tg) (wSs G b) Z (ds.drop (i + 1)) ρ', fun σ' H' z => ⟨_, by omega, rfl, by omega, z⟩, fun x H3 y => ?_⟩
        obtain ⟨F3, s3, f3, hx⟩ := yl x H3 y
        have sr3 := sr2.step s3 f3
        have l3 := l2.mono s3.f
        refine gT_ok sr3 hx hw fun ρ' σ' sr' hw' _ => ?_
        refine ⟨F0, H0, F3, ρ', _, sr', hw', ⟨fun ρ4 σ4 F4 H4 a b c => ⟨F4, ρ4, sf.trans (s3.f.trans a), b, c⟩, fun ρ4 σ4 F4 H4 a b c => l3.nx ρ4 σ4 F4 H4 a b c, l3.rt, l3.ex⟩⟩
      · have e1 : i = ds.length := by omega
        subst e1
        rw [List.drop_length] at hw
        exact .inl ⟨j2.2, l2.nx _ _ _ _ (Same.refl _) sr2 hw⟩
    · cases h
  | .rais c, cm, X, W, g, st, h => by
    unfold ckS at h
    split at h
    · obtain ⟨h, c2⟩ := ba h
      obtain ⟨hc, c1⟩ := ba h
      obtain ⟨e, g1, g2⟩ := ckG_ok c2
      subst e
      have xt := g.xc c (by simpa using c1)
      refine PS.imp (ps_raise (g.g.calm hc) g.g.tk (pmk_own PySem.F.excBase_ValueError xt.exc xt.at_ xt.keep (raises_own xt.sub xt.typ) (Gl_of g1) g2)) fun D σ H q => ?_
      obtain ⟨F0, H0, F, ρ, Z, sr, w, l⟩ := q
      unfold wS at w
      exact l.ex c ρ σ F H (Same.refl _) sr w
    · cases h
  | .try1 b c hd xs, cm, X, W, g, st, h => by
    unfold ckS at h
    split at h
    · rename_i p x np q qs pos' pos
      obtain ⟨h, c5⟩ := ba h
      obtain ⟨h, c4⟩ := ba h
      obtain ⟨h, c3⟩ := ba h
      obtain ⟨h, c2⟩ := ba h
      obtain ⟨hc, c7⟩ := ba h
      have hc' := g.g.calm hc
      obtain ⟨e, g1, g2⟩ := ckG_ok c3
      subst e
      have hcx : c ∈ T.xcs := by simpa using c2
      have xt := g.xc c hcx
      refine PS.imp (ps_try_only (c := clsV X.K T c) (tb := fun W' => tS X.K T W' (wSs G b)) (ts := fun _ _ _ => tS X.K T W0 (wSs G hd)) (Wout := W) g.st g.fr ⟨Gl_of g1, g2, .inl xt.at_⟩ g.g.tk (fun W' pn xe tk' pa' => sSs b cm (X.tr pn xe) W' (gs_tr g tk' pa') p c4)
        (fun a oe cls d pn _ _ => sSs hd false (X.suite a ((a, oe) :: pn)) W0 (gs_suite g) (q :: qs) c5)) fun D σ H q => ?_
      obtain ⟨F0, H0, F, ρ, Z, sr, w, l⟩ := q
      unfold wS at w
      refine ⟨F0, H0, F, ρ, _, sr, w, ⟨l.nx, l.bk, l.rt, fun c' ρ' σ' F' H' a b z => ?_⟩⟩
      obtain ⟨z7, z⟩ := (show c' ∈ xs ∧ wIf (isa c' c) (wSs G hd { Z with ex := fun _ _ => False } ρ') (Z.ex c' ρ') from z)
      have z1 : c' ∈ T.xcs := by simpa using List.all_eq_true.mp c7 c' z7
      refine ⟨isa c' c, g.xm c' z1 c hcx, fun hi a1 _ => ?_, fun hi => ?_⟩
      · have z := z.1 hi
        exact ⟨F0, H0, F', ρ', _, b, z, ⟨fun ρ4 σ4 F4 H4 a2 => l.nx ρ4 σ4 F4 H4 (a.trans a2), fun ρ4 σ4 F4 H4 a2 => l.bk ρ4 σ4 F4 H4 (a.trans a2), fun r v F4 H4 a2 => l.rt r v F4 H4 (a.trans a2), fun _ _ _ _ _ _ _ z => z.elim⟩⟩
      · have z := z.2 hi
        exact l.ex c' ρ' σ' F' H' a b z
    · cases h
  | .frz i, cm, X, W, g, st, h => by
    unfold ckS at h
    cases h
theorem sSs {T : Tb} {G : Nat → DSp} {n : Nat} : ∀ (ss : Ss) (cm : Bool) (X : Cx) (W : WX) (g : GS T G n cm W X) (sts : List Stmt), ckSs T X.N cm X.env.scope ss sts = true → PSs X sts (tS X.K T W (wSs G ss))
  | .nil, cm, X, W, g, sts, h => by
    unfold ckSs at h
    split at h
    · refine PSs.imp pss_nil fun D σ H q => ?_
      obtain ⟨F0, H0, F, ρ, Z, sr, w, l⟩ := q
      exact l.nx _ _ _ _ (Same.refl _) sr w
    · cases h
  | .cons s ss, cm, X, W, g, sts, h => by
    unfold ckSs at h
    split at h
    · rename_i i
      refine PSs.imp (sSs ss cm X W g sts h) fun D σ H q => ?_
      obtain ⟨F0, H0, F, ρ, Z, sr, w, l⟩ := q
      unfold wSs wS at w
      unfold frzS at w
      split at w
      · rename_i ds b e
        obtain ⟨F', sr', sf⟩ := sr.frz e
        exact ⟨F0, H0, F', _, Z, sr', w, l.mono sf⟩
      · exact ⟨F0, H0, F, ρ, Z, sr, w, l⟩
      · exact w.elim
    · split at h
      · rename_i p ps
        obtain ⟨h1, h2⟩ := ba h
        refine PSs.imp (pss_cons (sS s cm X W g p h1) (sSs ss cm X W g ps h2)) fun D σ H q => ?_
        obtain ⟨F0, H0, F, ρ, Z, sr, w, l⟩ := q
        unfold wSs at w
        refine ⟨F0, H0, F, ρ, _, sr, w, ⟨fun ρ' σ' F' H' a b c => ?_, l.bk, l.rt, l.ex⟩⟩
        exact ⟨F0, H0, F', ρ', Z, b, c, l.mono a⟩
      · cases h
end
end DL
end
section
set_option maxRecDepth 100000
set_option maxHeartbeats 4000000
namespace DL
open PySem PySem.Spec PyProof.Rows L2
structure Wd (P : Program) (w : World) (K : PySem.W.Frag) (mg : Str → Option Value) (T : Tb) : Prop where
  gl : ∀ k ∈ T.gls, ∃ u v, mg (T.gl k) = some u ∧ RelV v u ∧ Dq K (fun _ => none) v (glD k)
  bi : ∀ b : Bi, mg (bname b) = none
  bo : ∀ x ∈ ["isinstance", "range", "enumerate", "zip", "reversed", "int", "bool", "str", "tuple", "list"], mg (Str.ofString x) = none
  xa : ∀ c ∈ T.xcs, mg (T.xc c) = some (clsV K T c)
  xe : ∀ c ∈ T.xcs, PySem.W.excIn K (He.ga K (T.xc c)) He.veBase "ValueError.__new__" = true ∧ PySem.W.keepIn K (clsV K T c) = true ∧ PySem.W.subIn K (clsV K T c) (.type "BaseException") = some true ∧ PySem.W.typeIn K (clsV K T c) = some (.type "type")
  xm : ∀ c ∈ T.xcs, ∀ d ∈ T.xcs, PySem.W.exmOne K (clsV K T c) (clsV K T d) = some (isa c d)
def FnP (P : Program) (w : World) (K : PySem.W.Frag) (mg : Str → Option Value) (base : Heap) (T : Tb) (G : Nat → DSp) (k f : Nat) : Prop :=
  ∃ (a : Addr) (fd : FuncData) (ps : List Str), FnOk P w K mg base (L2.CX P w) k a fd ps (lift K T (G f)) ∧ mg (T.fn f) = some (.ref a) ∧ PySem.W.keepIn K (.ref a) = true ∧ Binds K fd ps []
def dstart (N : List Str) (ds : List D) : En := ds.map (fun d => some (R.d d)) ++ List.replicate (N.length - ds.length) none
def endOf (Q : R → Prop) (X : Nat → Prop) : DE := ⟨fun _ => Q (.d .none), Q, fun _ => False, fun c _ => X c⟩
section
variable {P : Program} {w : World} {K : PySem.W.Frag} {mg : Str → Option Value} {base : Heap} {T : Tb} {G : Nat → DSp}
theorem sr_start {N : List Str} {F H : Hp} {vs : List V} {ds : List DL.D} (fh : Same F H) (h : DqAll K F vs ds) : SR K F H F (dstart N ds) (L2.start N vs) H where
  fh := fh
  ent := Step.refl
  len := by
    unfold L2.start dstart
    rw [List.length_append, List.length_append, List.length_map, List.length_map, List.length_replicate, List.length_replicate, dpa_len h]
  val := fun i x e => by
    unfold dstart at e
    unfold L2.start
    by_cases hi : i < ds.length
    · rw [List.getElem?_append_left (by rw [List.length_map]; exact hi), List.getElem?_map] at e
      cases q : ds[i]? with
      | none => rw [q] at e; cases e
      | some d =>
        rw [q] at e
        cases e
        obtain ⟨v, h1, h2⟩ := dpa_get h q
        refine ⟨v, ?_, h2⟩
        rw [List.getElem?_append_left (by rw [List.length_map, dpa_len h]; exact hi), List.getElem?_map, h1]
        rfl
    · rw [List.getElem?_append_right (by rw [List.length_map]; omega), List.getElem?_replicate] at e
      split at e <;> cases e
  own := fun i es b e => by
    exfalso
    unfold dstart at e
    by_cases hi : i < ds.length
    · rw [List.getElem?_append_left (by rw [List.length_map]; exact hi), List.getElem?_map] at e
      cases q : ds[i]? with
      | none => rw [q] at e; cases e
      | some d => rw [q] at e; cases e
    · rw [List.getElem?_append_right (by rw [List.length_map]; omega), List.getElem?_replicate] at e
      split at e <;> cases e
  sep := fun i j es fs b c a _ e => by
    exfalso
    unfold dstart at e
    by_cases hi : i < ds.length
    · rw [List.getElem?_append_left (by rw [List.length_map]; exact hi), List.getElem?_map] at e
      cases q : ds[i]? with
      | none => rw [q] at e; cases e
      | some d => rw [q] at e; cases e
    · rw [List.getElem?_append_right (by rw [List.length_map]; omega), List.getElem?_replicate] at e
      split at e <;> cases e
theorem def_okF {k f : Nat} {a : Addr} {fd : FuncData} {qual : Str} {params : Arguments} {body : List Stmt} {scope : Scope} {N ps : List Str} {cal : List Nat} {mini : Ss} (wd : Wd P w K mg T)
    {x : Str} (F : FunD K x qual params body scope [] [] a fd) (S : FnScope N ps scope)
    (hc : ∀ g ∈ cal, FnP P w K mg base T G k g) (ck : ckSs { T with fns := cal } N true scope mini body = true)
    (hw : ∀ ds Q X, G f ds Q X → ds.length = ps.length ∧ wSs G mini (endOf Q X) (dstart N ds)) : FnOk P w K mg base (L2.CX P w) (k + 1) a fd ps (lift K T (G f)) := by
  refine F.ok S (fun vs H Q E h => ?_) (fun cdv A outer s H vs Q E hr h => ?_)
  · obtain ⟨F0, ds, P1, PE, fh, hd, hg, _⟩ := h
    rw [dpa_len hd]
    exact (hw ds P1 PE hg).1
  · obtain ⟨F0, ds, P1, PE, fh, hd, hg, post, pex⟩ := h
    have tk : Takes (cxOf (L2.CX P w) P w K mg base N qual scope a cdv A outer s H E) (fun cls d _ H => E cls d H) := takes_of rfl rfl rfl rfl
    have gs : GS { T with fns := cal } G k true (fun cls d _ H => E cls d H) (cxOf (L2.CX P w) P w K mg base N qual scope a cdv A outer s H E) := by
      refine ⟨⟨fun _ => hr, fun _ => rfl, ?_, fun g hg => ?_, wd.gl, wd.bi, wd.bo, tk, S.nd⟩, passes_of rfl, fun x hx => ?_, rfl, rfl, S.kind, fun c hc => ?_, wd.xm⟩
      · have := hr.un
        show _ + 200 < _
        have e : (cxOf (L2.CX P w) P w K mg base N qual scope a cdv A outer s H E).A = A.deeper (envOfC qual scope s.heap.objs.size a cdv) := rfl
        rw [e]
        omega
      · obtain ⟨b, fd2, ps2, h1, h2, h3, h4⟩ := hc g hg
        exact ⟨k, b, fd2, ps2, Nat.le_refl _, h1, h2, h3, h4⟩
      · cases q : scope.names.lookup x with
        | none =>
          have hx : isLoc (scope.names.lookup x) = true := hx
          rw [q] at hx
          cases hx
        | some kd =>
          have hx : isLoc (scope.names.lookup x) = true := hx
          rw [q] at hx
          cases kd with
          | «local» => exact ⟨.inl q, .inl rfl⟩
          | cell => exact ⟨.inr q, .inl rfl⟩
          | _ => cases hx
      · obtain ⟨h1, h2, h3, h4⟩ := wd.xe c hc
        exact ⟨wd.xa c hc, h1, h2, h3, h4⟩
    refine ⟨_, sSs mini true _ _ gs body ck, F0, H, F0, dstart N ds, endOf P1 PE, sr_start fh hd, (hw ds P1 PE hg).2, ?_⟩
    refine ⟨fun ρ' σ' F' H' s1 sr h => ?_, fun _ _ _ _ _ _ h => h.elim, fun r v F' H' s1 st f1 rv h => post r v F' H' h st f1 rv, fun c ρ' σ' F' H' s1 sr h => pex c F' H' h sr.ent sr.fh⟩
    exact post (.d .none) .non F' H' h sr.ent sr.fh (show Dq _ _ _ _ from Dq.non)
theorem def_ok {k f : Nat} {a : Addr} {fd : FuncData} {qual : Str} {params : Arguments} {body : List Stmt} {scope : Scope} {N ps : List Str} {cal : List Nat} {mini : Ss} (wd : Wd P w K mg T)
    (F : FunD K (T.fn f) qual params body scope [] [] a fd) (hm : mg (T.fn f) = some (.ref a)) (S : FnScope N ps scope) (hb : Binds K fd ps [])
    (hc : ∀ g ∈ cal, FnP P w K mg base T G k g) (ck : ckSs { T with fns := cal } N true scope mini body = true)
    (hw : ∀ ds Q X, G f ds Q X → ds.length = ps.length ∧ wSs G mini (endOf Q X) (dstart N ds)) : FnP P w K mg base T G (k + 1) f :=
  ⟨a, fd, ps, def_okF wd F S hc ck hw, hm, F.kp, hb⟩
end
def noLst (K : PySem.W.Frag) : Bool := K.all fun p => match p.2.cls with
  | .type c => !(decide (c = "list"))
  | _ => true
theorem lk_mem {a : Addr} {o : Obj} : ∀ {K : List (Addr × Obj)}, K.lookup a = some o → (a, o) ∈ K
  | [], h => by cases h
  | (b, u) :: K, h => by
    rw [List.lookup_cons] at h
    split at h
    · rename_i e
      cases h
      rw [eq_of_beq e]
      exact List.mem_cons_self
    · exact List.mem_cons_of_mem _ (lk_mem h)
theorem noLst_ok {K : PySem.W.Frag} (h : noLst K = true) {a : Addr} {o : Obj} (e : K.lookup a = some o) : o.cls ≠ .type "list" := by
  have hm := lk_mem e
  have := List.all_eq_true.mp h _ hm
  intro z
  rw [z] at this
  cases this
def obsE (fa : List He.Fa) (fn : List He.DefD) (tb : List (Str × List Int)) (K : PySem.W.Frag) : He.AlD × Bool := (He.obsD fa fn K, noLst K && tb.all fun p => He.tupB K p.1 (p.2.map He.Dv.int))
def valE (fn : List He.DefD) : He.AlD × Bool := (He.valD fn, true)
structure SaysE (fa : List He.Fa) (fn : List He.DefD) (tb : List (Str × List Int)) (K : PySem.W.Frag) : Prop where
  d : He.SaysD fa fn K
  nl : noLst K = true
  tb : ∀ p ∈ tb, He.tupB K p.1 (p.2.map He.Dv.int) = true
theorem saysE_of {fa : List He.Fa} {fn : List He.DefD} {tb : List (Str × List Int)} {K : PySem.W.Frag} (e : obsE fa fn tb K = valE fn) : SaysE fa fn tb K := by
  have e1 := congrArg (fun z : He.AlD × Bool => z.1) e
  have e2 : (noLst K && tb.all fun p => He.tupB K p.1 (p.2.map He.Dv.int)) = true := congrArg (fun z : He.AlD × Bool => z.2) e
  obtain ⟨h1, h2⟩ := ba e2
  exact ⟨e1, h1, fun p hp => List.all_eq_true.mp h2 p hp⟩
def obsEG (n : Nat) (fa : List He.Fa) (fn : List He.DefD) (tb : List (Str × List Int)) (g : Addr → Option Obj) : He.AlD × Bool := obsE fa fn tb (He.frG g (He.asD g n))
def hookE (n : Nat) (fa : List He.Fa) (fn : List He.DefD) (tb : List (Str × List Int)) : PySem.W.Hook where
  α := He.AlD × Bool
  obs := fun s => obsEG n fa fn tb s.heap.get?
  val := fun _ => valE fn
  says := fun _ h => ∃ K : PySem.W.Frag, K.In h ∧ SaysE fa fn tb K
  of := fun _ _ e => ⟨_, He.frG_in, saysE_of e⟩
  keeps := fun _ _ _ ⟨K, hK, c⟩ k => ⟨K, PySem.W.Frag.In.keeps hK k, c⟩
theorem obsEG_eq {n : Nat} {fa : List He.Fa} {fn : List He.DefD} {tb : List (Str × List Int)} {g : Addr → Option Obj} {s : Shared} (h : ∀ a, g a = s.heap.get? a) : obsEG n fa fn tb g = (hookE n fa fn tb).obs s := by
  have e : g = s.heap.get? := funext h
  rw [e] <;> rfl
def LawSp (G : Nat → DSp) (f : Nat) : Prop := ∀ ns : List Int, ns.length ≤ 63 → ∀ (Q : R → Prop) (X : Nat → Prop), Q (.d (.bool true)) → G f [.list (ns.map .int)] Q X
def spLaw (K : PySem.W.Frag) : Sp := fun vs H Q _ => ∃ (a : Addr) (ns : List Int), vs = [.ref a] ∧ SqL K H a (ns.map V.int) ∧ ns.length ≤ 63 ∧ ∀ H', Q (.bl true) H'
theorem law_end {P : Program} {w : World} {K : PySem.W.Frag} {mg : Str → Option Value} {base : Heap} {T : Tb} {G : Nat → DSp} {k f : Nat} (nl : noLst K = true) (hl : LawSp G f) {a : Addr} {fd : FuncData} {ps : List Str}
    (F : FnOk P w K mg base (L2.CX P w) k a fd ps (lift K T (G f))) : FnOk P w K mg base (L2.CX P w) k a fd ps (spLaw K) := by
  refine F.imp fun vs H Q E h => ?_
  obtain ⟨b, ns, e, hq, hn, post⟩ := h
  subst e
  have rd : Rd H b (.lst (ns.map V.int)) := by
    rcases hq with h | ⟨o, its, n, h1, h2, _⟩
    · exact h
    · exact absurd h2 (noLst_ok nl h1)
  refine ⟨H, [.list (ns.map .int)], fun r => r = .d (.bool true), fun _ => False, Same.refl _, .cons (.lst rd (dpa_of_ints ns)) .nil, hl ns hn _ _ rfl, fun r v F' H' h _ _ rv => ?_, fun _ _ _ h => h.elim⟩
  subst h
  rw [rv_bool rv]
  exact post H'
end DL
namespace DL
open PySem PySem.Spec PyProof.Rows L2
theorem all_nil {α : Type} {P : α → Prop} : ∀ c ∈ ([] : List α), P c := fun _ h => nomatch h
theorem all_cons {α : Type} {P : α → Prop} {a : α} {l : List α} (h : P a) (t : ∀ c ∈ l, P c) : ∀ c ∈ a :: l, P c := fun c hc => by
  rcases List.mem_cons.mp hc with e | e
  · rw [e]; exact h
  · exact t c e
theorem FnP.mono {P : Program} {w : World} {K : PySem.W.Frag} {mg : Str → Option Value} {base : Heap} {T : Tb} {G : Nat → DSp} {j k f : Nat} (h : FnP P w K mg base T G j f) (l : j ≤ k) : FnP P w K mg base T G k f :=
  let ⟨a, fd, ps, h1, h2, h3, h4⟩ := h
  ⟨a, fd, ps, h1.mono l, h2, h3, h4⟩
theorem gl_tup {K : PySem.W.Frag} {mg : Str → Option Value} {h : Heap} (X : K.In h) (G : h.Ns mainGlobals mg) {x : Str} {is : List Int} (c : (He.Fa.glo x).ok K = true) (t : He.tupB K x (is.map He.Dv.int) = true) :
    ∃ u v, mg x = some u ∧ RelV v u ∧ Dq K (fun _ => none) v (.tuple (is.map .int)) := by
  refine ⟨_, .ref (He.ga K x), He.glo_ok X G c, rfl, .tup (xs := is.map V.int) ?_ (dpa_of_ints is)⟩
  have := He.tupB_ok t (fun _ => none)
  rw [List.map_map] at this
  exact this
theorem gl_int {K : PySem.W.Frag} {mg : Str → Option Value} {h : Heap} (X : K.In h) (G : h.Ns mainGlobals mg) {x : Str} {i : Int} (c : (He.Fa.int x i).ok K = true) : ∃ u v, mg x = some u ∧ RelV v u ∧ Dq K (fun _ => none) v (.int i) := by
  obtain ⟨t, e⟩ := He.int_ok X G c
  exact ⟨_, .int i, e, ⟨t, rfl⟩, .int i⟩
theorem gl_str {K : PySem.W.Frag} {mg : Str → Option Value} {h : Heap} (X : K.In h) (G : h.Ns mainGlobals mg) {x z : Str} (c : (He.Fa.str x z).ok K = true) : ∃ u v, mg x = some u ∧ RelV v u ∧ Dq K (fun _ => none) v (.str z) := by
  obtain ⟨t, e⟩ := He.str_ok X G c
  exact ⟨_, .str z, e, ⟨t, rfl⟩, .str z⟩
end DL
namespace DL
open PySem PySem.Spec PyProof.Rows L2
def LawAt (l : PySem.W.OpenLaw) (YP : World → Heap → Prop) (nm x : Str) (k : Nat) : Prop := ∀ w mg fa h, YP w h → h.Ns mainGlobals mg → mg nm = some (Value.ref fa) → ∃ K fd,
  PySem.W.Frag.In K h ∧ (∀ s u, BindsTo s fd ⟨[u], []⟩ [(x, u)]) ∧ ∀ base, PySem.W.Frag.In K base → base.Ns mainGlobals mg → FnOk l.prog w K mg base (L2.CX l.prog w) k fa fd [x] (spLaw K)
theorem cx_end {P : Program} (w : World) (H : Hp) (s : Shared) (e : Value) (s' : Shared) (h : L2.CX P w [] H s (fun _ _ _ => False) e s') : False := by
  obtain ⟨_, _, _, _, _, _, _, _, _, _, _, _, z⟩ := h
  exact z
theorem walk_w {l : PySem.W.OpenLaw} {k : Nat} {q : Program} {loose : List Str} {XP : (Str → Option Value) → Heap → Prop} {YP : World → Heap → Prop} {d : DefRec} {x : Str} (hn : l.most = some 63) (hd : d.params.defaults = []) (hr : Room k callerA) (F : LawAt l YP d.name x k) :
    PySem.W.WalkO q loose XP YP l.row.toRowW d [] (fun f vs => PySem.call f vs) :=
  Att.attach_call hn hd fun w s0 s1 mg mb fa o pm cd doc a vs ns G Y _ _ _ em _ hi hl hg =>
    let ⟨_, _, hK, hb, hF⟩ := F w mg fa _ Y G.T.g em
    law_call hK G.T.g G.T.b G.T.builtins G.T.nolimit hg (by assumption) hi (Nat.le_trans hl (by decide)) hr hF hb (fun H _ hS => ⟨a, ns, rfl, hS, hl, fun _ => rfl⟩) fun H e s' => cx_end w H s1 e s'
end DL
end
section
set_option maxRecDepth 100000
set_option maxHeartbeats 4000000
namespace DL
open PySem L2
def dst (n : Nat) (ds : List D) : En := ds.map (fun d => some (R.d d)) ++ List.replicate (n - ds.length) none
def FnW (G : Nat → DSp) (n np : Nat) (m : Ss) (sp : DSp) : Prop := ∀ ds Q X, sp ds Q X → ds.length = np ∧ wSs G m (endOf Q X) (dst n ds)
theorem gC {G : Nat → DSp} {f : Nat} {sp : DSp} {ds : List D} {Q : R → Prop} {X : Nat → Prop} (h : G f = sp) (p : sp ds Q X) : G f ds Q X := by rw [h]; exact p
def Bd (n : Nat) (x : Int) : Prop := x.natAbs < 2 ^ n
instance {n : Nat} {x : Int} : Decidable (Bd n x) := inferInstanceAs (Decidable (_ < _))
theorem Bd.mono {m n : Nat} {x : Int} (h : Bd m x) (l : m ≤ n) : Bd n x := Nat.lt_of_lt_of_le h (Nat.pow_le_pow_right (by decide) l)
theorem Bd.le {n : Nat} {x y : Int} (h : Bd n y) (l : x.natAbs ≤ y.natAbs) : Bd n x := Nat.lt_of_le_of_lt l h
theorem Bd.mul {m n : Nat} {x y : Int} (h : Bd m x) (g : Bd n y) : Bd (m + n) (x * y) := wide_lt h g
theorem Bd.add {m n : Nat} {x y : Int} (h : Bd m x) (g : Bd n y) : Bd (max m n + 1) (x + y) := by
  have h1 := h.mono (Nat.le_max_left m n)
  have h2 := g.mono (Nat.le_max_right m n)
  unfold Bd at *
  rw [Nat.pow_succ]
  omega
theorem Bd.sub {m n : Nat} {x y : Int} (h : Bd m x) (g : Bd n y) : Bd (max m n + 1) (x - y) := by
  have h1 := h.mono (Nat.le_max_left m n)
  have h2 := g.mono (Nat.le_max_right m n)
  unfold Bd at *
  rw [Nat.pow_succ]
  omega
theorem Bd.neg {m : Nat} {x : Int} (h : Bd m x) : Bd m (-x) := by unfold Bd at *; omega
theorem mul_ok {m n : Nat} {x y : Int} (h : Bd m x) (g : Bd n y) (l : m + n ≤ 999990) : MulOk x y :=
  (wide_mul (h.mono (Nat.le_succ m)) (g.mono (Nat.le_succ n)) (Nat.succ_pos _) (Nat.succ_pos _) (by omega)).ok
theorem div_ok {n : Nat} {x y : Int} (g : Bd n y) (l : n ≤ 8999) : DivOk x y :=
  PyProof.noPylong_of_log2 (Nat.lt_of_lt_of_le (PySem.Flt.log2_lt_of (Nat.succ_pos n) (g.mono (Nat.le_succ n))) (by omega))
theorem mul_l {x y : Int} (h : -(2 ^ 64) < x) (g : x < 2 ^ 64) : MulOk x y := CMul.ok (.inl ⟨h, g⟩)
theorem mul_r {x y : Int} (h : -(2 ^ 64) < y) (g : y < 2 ^ 64) : MulOk x y := CMul.ok (.inr ⟨h, g⟩)
theorem div_lit {x y : Int} (h : y.natAbs < 2 ^ 1000) : DivOk x y := div_ok (n := 1000) h (by decide)
theorem bd_of {n : Nat} {x : Int} (h : -(2 ^ n : Nat) < x) (g : x < (2 ^ n : Nat)) : Bd n x := by
  unfold Bd
  omega
theorem bd_self (x : Int) : Bd (x.natAbs.log2 + 1) x := Nat.lt_log2_self
theorem wIf_tt {a b : Prop} (h : a) : wIf true a b := ⟨fun _ => h, fun z => nomatch z⟩
theorem wIf_ff {a b : Prop} (h : b) : wIf false a b := ⟨(fun z => nomatch z), fun _ => h⟩
theorem wIf_not {k : Bool} {a b : Prop} (h : wIf k b a) : wIf (!k) a b := by
  cases k
  · exact ⟨fun _ => h.2 rfl, fun z => nomatch z⟩
  · exact ⟨(fun z => nomatch z), fun _ => h.1 rfl⟩
theorem bd40 {x : Int} (h : -1099511627776 < x) (g : x < 1099511627776) : Bd 40 x := bd_of h g
theorem bd64 {x : Int} (h : -18446744073709551616 < x) (g : x < 18446744073709551616) : Bd 64 x := bd_of h g
theorem bd130 {x : Int} (h : -(2 ^ 130) < x) (g : x < 2 ^ 130) : Bd 130 x := bd_of h g
theorem bd210 {x : Int} (h : -(2 ^ 210) < x) (g : x < 2 ^ 210) : Bd 210 x := bd_of h g
theorem isi_ok {d : D} {t : String} {b : Bool} (h : kitB (tyD d) t = some b) : isiOk d t := fun z => by rw [h] at z; cases z
theorem forLoop_ind {st : D → En → (En → Prop) → Prop} {body : DE → En → Prop} {E : DE} (P : List D → En → Prop) (h0 : ∀ ρ, P [] ρ → E.nx ρ)
    (h1 : ∀ d ds ρ, P (d :: ds) ρ → ∀ nx : En → Prop, (∀ ρ', P ds ρ' → nx ρ') → st d ρ fun ρ2 => body { E with nx := nx, bk := E.nx } ρ2) :
    ∀ ds ρ, P ds ρ → forLoop st body E ds ρ := by
  intro ds
  induction ds with
  | nil => exact h0
  | cons d ds ih => exact fun ρ h => h1 d ds ρ h _ ih
theorem lc_ind {st : D → En → (En → Prop) → Prop} {tt : En → (Bool → Prop) → Prop} {el : En → (R → Prop) → Prop} {ρ : En} {Q : R → Prop} (P : List D → List D → Prop) (h0 : ∀ acc, P [] acc → Q (.l acc true))
    (h1 : ∀ d ds acc, P (d :: ds) acc → ∀ k : List D → Prop, (∀ acc', P ds acc' → k acc') → st d ρ fun ρ2 => tt ρ2 fun b => wIf b (el ρ2 fun r => frzP r fun y => k (acc ++ [y])) (k acc)) :
    ∀ ds acc, P ds acc → lcLoop st tt el ρ ds acc Q := by
  intro ds
  induction ds with
  | nil => exact h0
  | cons d ds ih => exact fun acc h => h1 d ds acc h _ ih
theorem lc_map {st : D → En → (En → Prop) → Prop} {tt : En → (Bool → Prop) → Prop} {el : En → (R → Prop) → Prop} {ρ : En} {Q : R → Prop} {α : Type} (f g : α → D) (xs : List α)
    (h1 : ∀ x ∈ xs, ∀ k : D → Prop, k (g x) → st (f x) ρ fun ρ2 => tt ρ2 fun b => b = true ∧ (el ρ2 fun r => frzP r k)) (mt : ∀ ρ2 (p q : Bool → Prop), (∀ b, p b → q b) → tt ρ2 p → tt ρ2 q)
    (ms : ∀ d (p q : En → Prop), (∀ ρ, p ρ → q ρ) → st d ρ p → st d ρ q) (h0 : Q (.l (xs.map g) true)) : lcLoop st tt el ρ (xs.map f) [] Q := by
  suffices H : ∀ (ys zs : List α) (acc : List D), ys ++ zs = xs → acc = ys.map g → lcLoop st tt el ρ (zs.map f) acc Q from H [] xs [] rfl rfl
  intro ys zs
  induction zs generalizing ys with
  | nil =>
    intro acc e e2
    subst e2
    rw [List.append_nil] at e
    subst e
    exact h0
  | cons z zs ih =>
    intro acc e e2
    refine ms _ _ _ (fun ρ2 h => mt _ _ _ (fun b h => ?_) h) (h1 z (by rw [← e]; simp) (fun y => lcLoop st tt el ρ (zs.map f) (acc ++ [y]) Q) (ih (ys ++ [z]) (acc ++ [g z]) (by rw [← e]; simp) (by rw [e2]; simp)))
    obtain ⟨h1, h2⟩ := h
    subst h1
    exact ⟨fun _ => h2, fun z => nomatch z⟩
theorem stT_mono {t : Tg} {d : D} {ρ : En} {p q : En → Prop} (i : ∀ ρ, p ρ → q ρ) (h : stT t d ρ p) : stT t d ρ q := by
  unfold stT at h ⊢
  cases t with
  | nm j => exact i _ h
  | tp is =>
    cases d with
    | tuple ds =>
      dsimp only at h ⊢
      cases e : setAll ρ is ds with
      | none => rw [e] at h; exact h.elim
      | some ρ' => rw [e] at h; exact i _ h
    | _ => exact h.elim
theorem lc_map1 {G : Nat → DSp} {t : Tg} {el : En → (R → Prop) → Prop} {ρ : En} {Q : R → Prop} {α : Type} (f g : α → D) (xs : List α)
    (h1 : ∀ x ∈ xs, ∀ k : D → Prop, k (g x) → stT t (f x) ρ fun ρ2 => el ρ2 fun r => frzP r k) (h0 : Q (.l (xs.map g) true)) : lcLoop (stT t) (fun ρ2 k => wCond G .nil ρ2 k) el ρ (xs.map f) [] Q :=
  lc_map f g xs (fun x hx k hk => stT_mono (fun ρ2 h => show wCond G .nil ρ2 _ from (show true = true ∧ _ from ⟨rfl, h⟩)) (h1 x hx k hk)) (fun ρ2 p q i h => i _ h) (fun d p q i h => stT_mono i h) h0
theorem atI_at {ds : List D} {i : Int} (h0 : 0 ≤ i) (h1 : i < ds.length) : atI ds i = ds[i.toNat]? := by
  have e : ixN ds.length i = some i.toNat := by
    unfold ixN
    rw [if_pos h0, if_pos h1]
  unfold atI
  rw [e] <;> rfl
theorem atI_mem {ds : List D} {i : Int} (h0 : 0 ≤ i) (h1 : i < ds.length) : ∃ d, atI ds i = some d ∧ d ∈ ds := by
  rw [atI_at h0 h1]
  have h : i.toNat < ds.length := by omega
  exact ⟨ds[i.toNat], List.getElem?_eq_getElem h, List.getElem_mem h⟩
theorem atI_mem2 {ds : List D} {i : Int} (h0 : -(ds.length : Int) ≤ i) (h1 : i < ds.length) : ∃ d, atI ds i = some d ∧ d ∈ ds := by
  by_cases h : 0 ≤ i
  · exact atI_mem h h1
  · have e : ixN ds.length i = some (i + ds.length).toNat := by
      unfold ixN
      rw [if_neg h, if_pos h0]
    have hl : (i + ds.length).toNat < ds.length := by omega
    refine ⟨ds[(i + ds.length).toNat], ?_, List.getElem_mem hl⟩
    unfold atI
    rw [e]
    exact List.getElem?_eq_getElem hl
theorem atI_maps {α : Type} {f : α → D} {xs : List α} {i : Int} (h0 : -(xs.length : Int) ≤ i) (h1 : i < xs.length) : ∃ x ∈ xs, atI (xs.map f) i = some (f x) := by
  obtain ⟨d, h2, h3⟩ := atI_mem2 (ds := xs.map f) (by simpa using h0) (by simpa using h1)
  obtain ⟨x, h4, h5⟩ := List.mem_map.mp h3
  exact ⟨x, h4, by rw [h2, h5]⟩
theorem atI_int {ds : List D} {i lo hi : Int} (h0 : 0 ≤ i) (h1 : i < ds.length) (ha : ∀ d ∈ ds, ∃ z, d = .int z ∧ lo ≤ z ∧ z ≤ hi) : ∃ z, atI ds i = some (.int z) ∧ lo ≤ z ∧ z ≤ hi := by
  obtain ⟨d, h2, h3⟩ := atI_mem h0 h1
  obtain ⟨z, h4, h5⟩ := ha d h3
  exact ⟨z, by rw [h2, h4], h5⟩
theorem take_drop_min (ds : List D) (i n : Nat) : (ds.drop (min i ds.length)).take (n - min i ds.length) = (ds.drop i).take (n - i) ∨ n ≠ ds.length ∧ True := by
  by_cases h : n = ds.length
  · left
    subst h
    by_cases h : i ≤ ds.length
    · rw [Nat.min_eq_left h]
    · rw [Nat.min_eq_right (by omega), List.drop_of_length_le (Nat.le_refl _), List.drop_of_length_le (by omega)]
      simp
  · exact .inr ⟨h, trivial⟩
theorem cut_gen (ds : List D) (i j : Nat) : cutD ds (some (i : Int)) (some (j : Int)) = (ds.drop i).take (j - i) := by
  unfold cutD
  rw [HT.sIx_nat, HT.sIx_nat]
  by_cases h : i ≤ ds.length
  · rw [Nat.min_eq_left h]
    by_cases h2 : j ≤ ds.length
    · rw [Nat.min_eq_left h2]
    · rw [Nat.min_eq_right (by omega), List.take_of_length_le (by rw [List.length_drop]; omega), List.take_of_length_le (by rw [List.length_drop]; omega)]
  · have e1 : min i ds.length = ds.length := Nat.min_eq_right (by omega)
    rw [e1, List.drop_length, List.drop_of_length_le (by omega)]
    simp
theorem cut_to (ds : List D) (j : Nat) : cutD ds none (some (j : Int)) = ds.take j := by
  have := cut_gen ds 0 j
  unfold cutD at this ⊢
  have e : HT.sIx ds.length 0 (some ((0 : Nat) : Int)) = HT.sIx ds.length 0 none := by rw [HT.sIx_nat]; simp [HT.sIx]
  rw [e] at this
  rw [this]
  simp
theorem cut_from (ds : List D) (i : Nat) : cutD ds (some (i : Int)) none = ds.drop i := by
  unfold cutD
  rw [HT.sIx_nat, HT.sIx_none]
  by_cases h : i ≤ ds.length
  · rw [Nat.min_eq_left h, List.take_of_length_le (by rw [List.length_drop]; exact Nat.le_refl _)]
  · have e1 : min i ds.length = ds.length := Nat.min_eq_right (by omega)
    rw [e1, List.drop_length, List.drop_of_length_le (by omega)]
    simp
theorem cut_init (ds : List D) : cutD ds none (some (-1)) = ds.dropLast := by
  unfold cutD
  rw [HT.sIx_none]
  have e : HT.sIx ds.length ds.length (some (-1)) = ds.length - 1 := by
    unfold HT.sIx
    simp
    omega
  rw [e, List.drop_zero, List.dropLast_eq_take]
  rfl
theorem small_lt {n : Nat} (h : n ≤ 100000) : n < sizeLine := Nat.lt_of_le_of_lt h (by decide)
theorem small_sz {n : Nat} (h : n ≤ 100000) : n ≤ sizeLine := Nat.le_trans h (by decide)
abbrev Vec := Int × Int
def vD (v : Vec) : D := .tuple [.int v.1, .int v.2]
def rD (r : Rat) : D := .tuple [.int r.num, .int r.den]
end DL
namespace DL
open PySem PySem.Spec PyProof.Rows L2
theorem def_no {P : Program} {w : World} {K : PySem.W.Frag} {mg : Str → Option Value} {base : Heap} {T : Tb} {G : Nat → DSp} {k f : Nat} {a : Addr} {fd : FuncData} {qual : Str} {params : Arguments} {body : List Stmt} {scope : Scope} {N ps : List Str}
    (F : FunD K (T.fn f) qual params body scope [] [] a fd) (hm : mg (T.fn f) = some (.ref a)) (S : FnScope N ps scope) (hb : Binds K fd ps [])
    (hw : ∀ ds Q X, ¬ G f ds Q X) : FnP P w K mg base T G (k + 1) f :=
  ⟨a, fd, ps, F.ok S (fun vs H Q E h => by obtain ⟨F0, ds, P1, PE, fh, hd, hg, _⟩ := h; exact (hw _ _ _ hg).elim) (fun cdv A outer s H vs Q E hr h => by obtain ⟨F0, ds, P1, PE, fh, hd, hg, _⟩ := h; exact (hw _ _ _ hg).elim), hm, F.kp, hb⟩
end DL
end
section
namespace DL
def m_common_measure : Ss := (.cons (.set 0 (.bi .abs (.cons (.v 0) .nil))) (.cons (.set 1 (.bi .abs (.cons (.v 1) .nil))) (.cons (.whl (.cmp .Gt (.v 1) (.int 0)) (.cons (.par2 0 1 (.v 1) (.bin .Mod (.v 0) (.v 1))) .nil)) (.cons (.ret (.v 0)) .nil))))
end DL
end
section
namespace DL
def m_lowest : Ss := (.cons (.ifs (.cmp .Eq (.v 1) (.int 0)) (.cons (.rais 1) .nil) .nil) (.cons (.set 2 (.call 0 (.cons (.v 0) (.cons (.v 1) .nil)))) (.cons (.ifs (.cmp .Lt (.v 1) (.int 0)) (.cons (.set 2 (.neg (.v 2))) .nil) .nil) (.cons (.ret (.tup (.cons (.bin .FloorDiv (.v 0) (.v 2)) (.cons (.bin .FloorDiv (.v 1) (.v 2)) .nil)))) .nil))))
end DL
end
section
namespace DL
def m_added : Ss := (.cons (.ret (.call 1 (.cons (.bin .Add (.bin .Mult (.ix (.v 0) (.int 0)) (.ix (.v 1) (.int 1))) (.bin .Mult (.ix (.v 1) (.int 0)) (.ix (.v 0) (.int 1)))) (.cons (.bin .Mult (.ix (.v 0) (.int 1)) (.ix (.v 1) (.int 1))) .nil)))) .nil)
end DL
end
section
namespace DL
def m_taken : Ss := (.cons (.ret (.call 1 (.cons (.bin .Sub (.bin .Mult (.ix (.v 0) (.int 0)) (.ix (.v 1) (.int 1))) (.bin .Mult (.ix (.v 1) (.int 0)) (.ix (.v 0) (.int 1)))) (.cons (.bin .Mult (.ix (.v 0) (.int 1)) (.ix (.v 1) (.int 1))) .nil)))) .nil)
end DL
end
section
namespace DL
def m_multiplied : Ss := (.cons (.ret (.call 1 (.cons (.bin .Mult (.ix (.v 0) (.int 0)) (.ix (.v 1) (.int 0))) (.cons (.bin .Mult (.ix (.v 0) (.int 1)) (.ix (.v 1) (.int 1))) .nil)))) .nil)
end DL
end
section
namespace DL
def m_divided : Ss := (.cons (.ifs (.cmp .Eq (.ix (.v 1) (.int 0)) (.int 0)) (.cons (.rais 1) .nil) .nil) (.cons (.ret (.call 1 (.cons (.bin .Mult (.ix (.v 0) (.int 0)) (.ix (.v 1) (.int 1))) (.cons (.bin .Mult (.ix (.v 0) (.int 1)) (.ix (.v 1) (.int 0))) .nil)))) .nil))
end DL
end
section
namespace DL
def m_is_before : Ss := (.cons (.ret (.cmp .Lt (.bin .Mult (.ix (.v 0) (.int 0)) (.ix (.v 1) (.int 1))) (.bin .Mult (.ix (.v 1) (.int 0)) (.ix (.v 0) (.int 1))))) .nil)
end DL
end
section
set_option maxRecDepth 100000
set_option maxHeartbeats 4000000
namespace DL
open PySem L2
def sp_common_measure : DSp := fun ds Q X => ∃ a b : Int, ds = [.int a, .int b] ∧ Q (.d (.int (Int.gcd a b)))
theorem abs_if (a : Int) : (if a < 0 then -a else a) = (a.natAbs : Int) := by split <;> omega
theorem gcd_step (x y : Int) (hy : 0 < y) : Int.gcd y (x.fmod y) = Int.gcd x y := by
  rw [Int.fmod_eq_emod_of_nonneg x (by omega)]
  have h := Int.mul_ediv_add_emod x y
  have h2 := Int.gcd_add_mul_left_right y (x % y) (x / y)
  rw [Int.add_comm, h] at h2
  rw [← h2, Int.gcd_comm]
theorem p_common_measure {G : Nat → DSp} : FnW G 2 2 m_common_measure sp_common_measure := by
  intro ds Q X ⟨a, b, e, q⟩
  subst e
  refine ⟨rfl, ?_⟩
  conv => whnf
  refine ⟨fun n ρ => ∃ x y : Int, ρ = [some (.d (.int x)), some (.d (.int y))] ∧ n = y.toNat ∧ 0 ≤ x ∧ 0 ≤ y ∧ Int.gcd x y = Int.gcd a b, ⟨_, _, _, rfl, rfl, by split <;> omega, by split <;> omega, by rw [abs_if, abs_if]; simp [Int.gcd]⟩, ?_⟩
  rintro n ρ ⟨x, y, rfl, rfl, hx, hy, hg⟩
  conv => whnf
  refine ⟨fun h => ?_, fun h => ?_⟩
  · have h : 0 < y := by simpa using h
    conv => whnf
    refine ⟨by omega, fun q hq hq' => ?_⟩
    conv => whnf
    subst hq
    have h1 := Int.fmod_nonneg_of_pos x h
    have h2 := Int.fmod_lt_of_pos x h
    refine ⟨_, by omega, _, _, rfl, rfl, hy, h1, ?_⟩
    rw [gcd_step x y h]
    exact hg
  · have h : y = 0 := by
      have : ¬ 0 < y := by simpa using h
      omega
    subst h
    conv => whnf
    have e : x = (Int.gcd a b : Int) := by rw [← hg]; simp; omega
    rw [e]
    exact q
def sp_lowest : DSp := fun ds Q X => ∃ a b : Int, ds = [.int a, .int b] ∧ Bd 8999 b ∧ (b = 0 → X 1) ∧ (b ≠ 0 → Q (.d (rD (Rat.divInt a b))))
theorem low_num {a b : Int} (hb : b ≠ 0) (s : Int) (hs : s = if b < 0 then -(Int.gcd a b : Int) else (Int.gcd a b : Int)) : a.fdiv s = (Rat.divInt a b).num ∧ b.fdiv s = ((Rat.divInt a b).den : Int) := by
  have hg : 0 < Int.gcd a b := Int.gcd_pos_of_ne_zero_right _ hb
  obtain ⟨u, hu⟩ : (Int.gcd a b : Int) ∣ a := Int.gcd_dvd_left ..
  obtain ⟨v, hv⟩ : (Int.gcd a b : Int) ∣ b := Int.gcd_dvd_right ..
  rw [Rat.num_divInt, Rat.den_divInt, Int.gcd_comm b a, if_neg hb]
  generalize hG : Int.gcd a b = g at *
  have g0 : (g : Int) ≠ 0 := by omega
  have nb : b.natAbs = g * v.natAbs := by rw [hv, Int.natAbs_mul]; simp
  have e4 : (((b.natAbs / g : Nat)) : Int) = (v.natAbs : Int) := by rw [nb, Nat.mul_div_cancel_left _ hg]
  rw [e4]
  subst hs
  split
  · rename_i hneg
    have hv0 : v < 0 := by
      rcases Int.lt_trichotomy v 0 with h | h | h
      · exact h
      · subst h; simp at hv; omega
      · have : 0 < (g : Int) * v := Int.mul_pos (by omega) h
        omega
    have sg : b.sign = -1 := Int.sign_eq_neg_one_of_neg hneg
    rw [sg]
    constructor
    · have : a.fdiv (-(g : Int)) = -u := by
        rw [hu, Int.mul_comm, show u * (g : Int) = (-u) * (-(g : Int)) by grind, Int.mul_fdiv_cancel _ (by omega)]
      rw [this, show -1 * a = (-u) * (g : Int) by grind, Int.mul_ediv_cancel _ g0]
    · have : b.fdiv (-(g : Int)) = -v := by
        rw [hv, Int.mul_comm, show v * (g : Int) = (-v) * (-(g : Int)) by grind, Int.mul_fdiv_cancel _ (by omega)]
      rw [this]
      omega
  · rename_i hneg
    have hv0 : 0 < v := by
      rcases Int.lt_trichotomy v 0 with h | h | h
      · have : (g : Int) * v < 0 := Int.mul_neg_of_pos_of_neg (by omega) h
        omega
      · subst h; simp at hv; omega
      · exact h
    have sg : b.sign = 1 := Int.sign_eq_one_of_pos (by omega)
    rw [sg]
    constructor
    · rw [Int.one_mul]
      rw [hu, Int.mul_comm, Int.mul_fdiv_cancel _ g0, Int.mul_ediv_cancel _ g0]
    · rw [hv, Int.mul_comm, Int.mul_fdiv_cancel _ g0]
      omega
theorem gcd_bd {n : Nat} {a b : Int} (h : Bd n b) (hb : b ≠ 0) : Bd n (Int.gcd a b) := by
  refine h.le ?_
  have := Nat.le_of_dvd (by omega) (Int.gcd_dvd_natAbs_right a b)
  simpa using this
theorem p_lowest {G : Nat → DSp} (g0 : G 0 = sp_common_measure) : FnW G 3 2 m_lowest sp_lowest := by
  intro ds Q X ⟨a, b, e, hb, q1, q2⟩
  subst e
  refine ⟨rfl, ?_⟩
  conv => whnf
  refine ⟨fun h => q1 (by simpa using h), fun h => ?_⟩
  have h : b ≠ 0 := by simpa using h
  conv => whnf
  rw [g0]
  refine ⟨_, _, rfl, ?_⟩
  have gb := gcd_bd (a := a) hb h
  have gp : 0 < Int.gcd a b := Int.gcd_pos_of_ne_zero_right _ h
  conv => whnf
  refine ⟨fun hn => ?_, fun hn => ?_⟩
  · have hn : b < 0 := by simpa using hn
    obtain ⟨e1, e2⟩ := low_num (a := a) h (-(Int.gcd a b : Int)) (by rw [if_pos hn])
    conv => whnf
    refine ⟨by omega, div_ok gb.neg (by decide), fun u hu _ => ?_⟩
    conv => whnf
    refine ⟨by omega, div_ok gb.neg (by decide), fun v hv _ => ?_⟩
    conv => whnf
    refine ⟨by show 2 ≤ sizeLine; decide, ?_⟩
    conv => whnf
    rw [hu, hv, e1, e2]
    exact q2 h
  · have hn : ¬ b < 0 := by simpa using hn
    obtain ⟨e1, e2⟩ := low_num (a := a) h (Int.gcd a b : Int) (by rw [if_neg hn])
    conv => whnf
    refine ⟨by omega, div_ok gb (by decide), fun u hu _ => ?_⟩
    conv => whnf
    refine ⟨by omega, div_ok gb (by decide), fun v hv _ => ?_⟩
    conv => whnf
    refine ⟨by show 2 ≤ sizeLine; decide, ?_⟩
    conv => whnf
    rw [hu, hv, e1, e2]
    exact q2 h
def RB (n : Nat) (r : Rat) : Prop := Bd n r.num ∧ Bd n r.den
theorem RB.mono {m n : Nat} {r : Rat} (h : RB m r) (l : m ≤ n) : RB n r := ⟨h.1.mono l, h.2.mono l⟩
theorem num_le {a b : Int} : (Rat.divInt a b).num.natAbs ≤ a.natAbs := by
  rw [Rat.num_divInt]
  have h1 : (b.sign * a).natAbs ≤ a.natAbs := by
    rw [Int.natAbs_mul]
    have : b.sign.natAbs ≤ 1 := by
      rcases Int.lt_trichotomy b 0 with h | h | h
      · rw [Int.sign_eq_neg_one_of_neg h]; decide
      · subst h; decide
      · rw [Int.sign_eq_one_of_pos h]; decide
    calc b.sign.natAbs * a.natAbs ≤ 1 * a.natAbs := Nat.mul_le_mul_right _ this
      _ = a.natAbs := Nat.one_mul _
  refine Nat.le_trans ?_ h1
  have : (b.sign * a / (b.gcd a : Int)).natAbs = (b.sign * a).natAbs / (b.gcd a) ∨ True := .inr trivial
  have hd : ((b.gcd a : Nat) : Int) ∣ b.sign * a := Int.dvd_trans (Int.gcd_dvd_right ..) (Int.dvd_mul_left ..)
  obtain ⟨u, hu⟩ := hd
  by_cases hz : b.gcd a = 0
  · rw [hz]; simp
  · rw [hu, Int.mul_ediv_cancel_left _ (by omega), Int.natAbs_mul]
    exact Nat.le_mul_of_pos_left _ (by simpa using Nat.pos_of_ne_zero hz)
theorem den_le {a b : Int} (hb : b ≠ 0) : ((Rat.divInt a b).den : Int).natAbs ≤ b.natAbs := by
  rw [Rat.den_divInt, if_neg hb]
  rw [Int.natAbs_natCast]
  exact Nat.div_le_self _ _
theorem RB.divInt {n : Nat} {a b : Int} (h1 : Bd n a) (h2 : Bd n b) (hb : b ≠ 0) : RB n (Rat.divInt a b) := ⟨h1.le num_le, h2.le (den_le hb)⟩
theorem den_ne (r : Rat) : (r.den : Int) ≠ 0 := by have := r.den_pos; omega
theorem rat_add (r s : Rat) : Rat.divInt (r.num * s.den + s.num * r.den) (r.den * s.den) = r + s := by
  rw [← Rat.divInt_add_divInt _ _ (den_ne r) (den_ne s), Rat.num_divInt_den, Rat.num_divInt_den]
theorem rat_sub (r s : Rat) : Rat.divInt (r.num * s.den - s.num * r.den) (r.den * s.den) = r - s := by
  have := rat_add r (-s)
  rw [Rat.neg_num, Rat.neg_den, ← Rat.sub_eq_add_neg] at this
  rw [← this]
  congr 1
  grind
theorem rat_mul (r s : Rat) : Rat.divInt (r.num * s.num) (r.den * s.den) = r * s := by
  rw [← Rat.divInt_mul_divInt, Rat.num_divInt_den, Rat.num_divInt_den]
theorem rat_div (r s : Rat) : Rat.divInt (r.num * s.den) (r.den * s.num) = r / s := by
  rw [← Rat.divInt_mul_divInt, Rat.num_divInt_den, ← Rat.inv_divInt, Rat.num_divInt_den, Rat.div_def]
theorem num_ne {s : Rat} (h : s ≠ 0) : s.num ≠ 0 := fun z => h (Rat.num_eq_zero.mp z)
theorem RB.add {m n : Nat} {r s : Rat} (h : RB m r) (g : RB n s) : RB (m + n + 1) (r + s) := by
  rw [← rat_add]
  refine RB.divInt (((h.1.mul g.2).add (g.1.mul h.2)).mono (by omega)) ((h.2.mul g.2).mono (by omega)) (Int.mul_ne_zero (den_ne r) (den_ne s))
theorem RB.sub {m n : Nat} {r s : Rat} (h : RB m r) (g : RB n s) : RB (m + n + 1) (r - s) := by
  rw [← rat_sub]
  refine RB.divInt (((h.1.mul g.2).sub (g.1.mul h.2)).mono (by omega)) ((h.2.mul g.2).mono (by omega)) (Int.mul_ne_zero (den_ne r) (den_ne s))
theorem RB.mul {m n : Nat} {r s : Rat} (h : RB m r) (g : RB n s) : RB (m + n) (r * s) := by
  rw [← rat_mul]
  exact RB.divInt (h.1.mul g.1) (h.2.mul g.2) (Int.mul_ne_zero (den_ne r) (den_ne s))
theorem RB.div {m n : Nat} {r s : Rat} (h : RB m r) (g : RB n s) (hs : s ≠ 0) : RB (m + n) (r / s) := by
  rw [← rat_div]
  exact RB.divInt (h.1.mul g.2) (h.2.mul g.1) (Int.mul_ne_zero (den_ne r) (num_ne hs))
theorem eqv_tup {xs ys : List D} : PyData.eqv (.tuple xs) (.tuple ys) = PyData.eqvAll xs ys := by unfold PyData.eqv; rfl
theorem eqv_nil : PyData.eqvAll [] [] = true := by unfold PyData.eqvAll; rfl
theorem eqv_cons {x y : D} {xs ys : List D} : PyData.eqvAll (x :: xs) (y :: ys) = (PyData.eqv x y && PyData.eqvAll xs ys) := by rw [PyData.eqvAll]
theorem eqv_rD (r s : Rat) : PyData.eqv (rD r) (rD s) = decide (r = s) := by
  unfold rD
  rw [eqv_tup, eqv_cons, eqv_cons, eqv_nil, eqv_i, eqv_i, Bool.and_true, Bool.eq_iff_iff]
  simp only [Bool.and_eq_true, decide_eq_true_iff]
  constructor
  · rintro ⟨h1, h2⟩
    exact Rat.ext h1 (by omega)
  · rintro rfl
    exact ⟨rfl, rfl⟩
theorem flat_t {xs ys : List D} (h : PyData.depthAll xs ≤ 99) : Flat (.tuple xs) (.tuple ys) := by
  unfold Flat
  refine Nat.le_trans (Nat.min_le_left _ _) ?_
  rw [PyData.depth]
  omega
theorem flat_r (r s : Rat) : Flat (rD r) (rD s) := flat_t (by simp [PyData.depthAll, PyData.depth])
theorem eq_rD {r s : Rat} {Q : R → Prop} (h : Q (.d (.bool (decide (r = s))))) : wEq0 (rD r) (rD s) Q := ⟨flat_r r s, by rw [eqv_rD]; exact h⟩
theorem ne_rD {r s : Rat} {Q : R → Prop} (h : Q (.d (.bool (!decide (r = s))))) : wNe0 (rD r) (rD s) Q := ⟨flat_r r s, by rw [eqv_rD]; exact h⟩
theorem eqv_ts (xs : List D) (z : Str) : PyData.eqv (.tuple xs) (.str z) = false := by unfold PyData.eqv; rfl
theorem flat_s (x : D) (z : Str) : Flat x (.str z) := by
  unfold Flat
  refine Nat.le_trans (Nat.min_le_right _ _) ?_
  simp [PyData.depth]
theorem eq_ts {xs : List D} {z : Str} {Q : R → Prop} (h : Q (.d (.bool false))) : wEq0 (.tuple xs) (.str z) Q := ⟨flat_s _ _, by rw [eqv_ts]; exact h⟩
theorem ne_ts {xs : List D} {z : Str} {Q : R → Prop} (h : Q (.d (.bool true))) : wNe0 (.tuple xs) (.str z) Q := ⟨flat_s _ _, by rw [eqv_ts]; exact h⟩
theorem eqv_vD (u v : Vec) : PyData.eqv (vD u) (vD v) = decide (u = v) := by
  unfold vD
  rw [eqv_tup, eqv_cons, eqv_cons, eqv_nil, eqv_i, eqv_i, Bool.and_true, Bool.eq_iff_iff]
  simp only [Bool.and_eq_true, decide_eq_true_iff]
  constructor
  · rintro ⟨h1, h2⟩
    exact Prod.ext h1 h2
  · rintro rfl
    exact ⟨rfl, rfl⟩
theorem flat_v (u v : Vec) : Flat (vD u) (vD v) := flat_t (by simp [PyData.depthAll, PyData.depth])
theorem eq_vD {a b c d : Int} {Q : R → Prop} (h : Q (.d (.bool (decide ((a, b) = (c, d)))))) : wEq0 (.tuple [.int a, .int b]) (.tuple [.int c, .int d]) Q := ⟨flat_v (a, b) (c, d), by have := eqv_vD (a, b) (c, d); unfold vD at this; rw [this]; exact h⟩
theorem ne_vD {a b c d : Int} {Q : R → Prop} (h : Q (.d (.bool (!decide ((a, b) = (c, d)))))) : wNe0 (.tuple [.int a, .int b]) (.tuple [.int c, .int d]) Q := ⟨flat_v (a, b) (c, d), by have := eqv_vD (a, b) (c, d); unfold vD at this; rw [this]; exact h⟩
def sp_added : DSp := fun ds Q X => ∃ (r s : Rat) (m n : Nat), ds = [rD r, rD s] ∧ RB m r ∧ RB n s ∧ m + n ≤ 8990 ∧ Q (.d (rD (r + s)))
def sp_taken : DSp := fun ds Q X => ∃ (r s : Rat) (m n : Nat), ds = [rD r, rD s] ∧ RB m r ∧ RB n s ∧ m + n ≤ 8990 ∧ Q (.d (rD (r - s)))
def sp_multiplied : DSp := fun ds Q X => ∃ (r s : Rat) (m n : Nat), ds = [rD r, rD s] ∧ RB m r ∧ RB n s ∧ m + n ≤ 8990 ∧ Q (.d (rD (r * s)))
def sp_divided : DSp := fun ds Q X => ∃ (r s : Rat) (m n : Nat), ds = [rD r, rD s] ∧ RB m r ∧ RB n s ∧ m + n ≤ 8990 ∧ (s = 0 → X 1) ∧ (s ≠ 0 → Q (.d (rD (r / s))))
def sp_is_before : DSp := fun ds Q X => ∃ (r s : Rat) (m n : Nat), ds = [rD r, rD s] ∧ RB m r ∧ RB n s ∧ m + n ≤ 999990 ∧ Q (.d (.bool (decide (r < s))))
theorem p_added {G : Nat → DSp} (g1 : G 1 = sp_lowest) : FnW G 2 2 m_added sp_added := by
  intro ds Q X ⟨r, s, m, n, e, hr, hs, l, q⟩
  subst e
  refine ⟨rfl, ?_⟩
  conv => whnf
  refine ⟨mul_ok hr.1 hs.2 (by omega), ?_⟩
  conv => whnf
  refine ⟨mul_ok hs.1 hr.2 (by omega), ?_⟩
  conv => whnf
  refine ⟨mul_ok hr.2 hs.2 (by omega), ?_⟩
  conv => whnf
  rw [g1]
  have ne := Int.mul_ne_zero (den_ne r) (den_ne s)
  refine ⟨_, _, rfl, (hr.2.mul hs.2).mono (by omega), fun z => absurd z ne, fun _ => ?_⟩
  conv => whnf
  rw [rat_add]
  exact q
theorem p_taken {G : Nat → DSp} (g1 : G 1 = sp_lowest) : FnW G 2 2 m_taken sp_taken := by
  intro ds Q X ⟨r, s, m, n, e, hr, hs, l, q⟩
  subst e
  refine ⟨rfl, ?_⟩
  conv => whnf
  refine ⟨mul_ok hr.1 hs.2 (by omega), ?_⟩
  conv => whnf
  refine ⟨mul_ok hs.1 hr.2 (by omega), ?_⟩
  conv => whnf
  refine ⟨mul_ok hr.2 hs.2 (by omega), ?_⟩
  conv => whnf
  rw [g1]
  have ne := Int.mul_ne_zero (den_ne r) (den_ne s)
  refine ⟨_, _, rfl, (hr.2.mul hs.2).mono (by omega), fun z => absurd z ne, fun _ => ?_⟩
  conv => whnf
  rw [rat_sub]
  exact q
theorem p_multiplied {G : Nat → DSp} (g1 : G 1 = sp_lowest) : FnW G 2 2 m_multiplied sp_multiplied := by
  intro ds Q X ⟨r, s, m, n, e, hr, hs, l, q⟩
  subst e
  refine ⟨rfl, ?_⟩
  conv => whnf
  refine ⟨mul_ok hr.1 hs.1 (by omega), ?_⟩
  conv => whnf
  refine ⟨mul_ok hr.2 hs.2 (by omega), ?_⟩
  conv => whnf
  rw [g1]
  have ne := Int.mul_ne_zero (den_ne r) (den_ne s)
  refine ⟨_, _, rfl, (hr.2.mul hs.2).mono (by omega), fun z => absurd z ne, fun _ => ?_⟩
  conv => whnf
  rw [rat_mul]
  exact q
theorem p_divided {G : Nat → DSp} (g1 : G 1 = sp_lowest) : FnW G 2 2 m_divided sp_divided := by
  intro ds Q X ⟨r, s, m, n, e, hr, hs, l, q1, q2⟩
  subst e
  refine ⟨rfl, ?_⟩
  conv => whnf
  refine ⟨fun h => q1 (Rat.num_eq_zero.mp (by simpa using h)), fun h => ?_⟩
  have h : s.num ≠ 0 := by simpa using h
  have hz : s ≠ 0 := fun z => h (by rw [z]; rfl)
  conv => whnf
  refine ⟨mul_ok hr.1 hs.2 (by omega), ?_⟩
  conv => whnf
  refine ⟨mul_ok hr.2 hs.1 (by omega), ?_⟩
  conv => whnf
  rw [g1]
  have ne := Int.mul_ne_zero (den_ne r) h
  refine ⟨_, _, rfl, (hr.2.mul hs.1).mono (by omega), fun z => absurd z ne, fun _ => ?_⟩
  conv => whnf
  rw [rat_div]
  exact q2 hz
theorem p_is_before {G : Nat → DSp} : FnW G 2 2 m_is_before sp_is_before := by
  intro ds Q X ⟨r, s, m, n, e, hr, hs, l, q⟩
  subst e
  refine ⟨rfl, ?_⟩
  conv => whnf
  refine ⟨mul_ok hr.1 hs.2 (by omega), ?_⟩
  conv => whnf
  refine ⟨mul_ok hs.1 hr.2 (by omega), ?_⟩
  conv => whnf
  have e : decide (r.num * (s.den : Int) < s.num * (r.den : Int)) = decide (r < s) := by
    rw [Bool.eq_iff_iff, decide_eq_true_iff, decide_eq_true_iff, Rat.lt_iff]
  rw [← e] at q
  exact q
end DL
end
section
namespace DL
def m_turn_of : Ss := (.cons (.ret (.bin .Sub (.bin .Mult (.ix (.v 0) (.int 0)) (.ix (.v 1) (.int 1))) (.bin .Mult (.ix (.v 0) (.int 1)) (.ix (.v 1) (.int 0))))) .nil)
end DL
end
section
namespace DL
def m_dot_of : Ss := (.cons (.ret (.bin .Add (.bin .Mult (.ix (.v 0) (.int 0)) (.ix (.v 1) (.int 0))) (.bin .Mult (.ix (.v 0) (.int 1)) (.ix (.v 1) (.int 1))))) .nil)
end DL
end
section
namespace DL
def m_farthest : Ss := (.cons (.ret (.bi .max1 (.cons (.lc (.call 33 (.cons (.v 2) (.cons (.v 1) .nil))) (.nm 2) (.ex (.v 0)) .nil [("heading", 2)]) .nil))) .nil)
end DL
end
section
set_option maxRecDepth 100000
set_option maxHeartbeats 4000000
set_option exponentiation.threshold 100000
namespace DL
open PySem L2
local macro_rules | `(tactic| l_ints) => `(tactic| first | (assumption) | (apply Bd.neg; l_ints) | (apply Bd.mul <;> l_ints) | (exact bd40 (by omega) (by omega)) | (apply Bd.add <;> l_ints) | (apply Bd.sub <;> l_ints) | (exact bd130 (by omega) (by omega)) | (exact bd210 (by omega) (by omega)) | (exact bd_self _) | fail)
def dot (u v : Vec) : Int := u.1 * v.1 + u.2 * v.2
def crs (u v : Vec) : Int := u.1 * v.2 - u.2 * v.1
def VB (k : Nat) (v : Vec) : Prop := Bd k v.1 ∧ Bd k v.2
theorem VB.mono {m k : Nat} {v : Vec} (h : VB m v) (l : m ≤ k) : VB k v := ⟨h.1.mono l, h.2.mono l⟩
def sp_turn_of : DSp := fun ds Q X => ∃ (u v : Vec) (k m : Nat), ds = [vD u, vD v] ∧ VB k u ∧ VB m v ∧ k + m ≤ 999990 ∧ Q (.d (.int (crs u v)))
def sp_dot_of : DSp := fun ds Q X => ∃ (u v : Vec) (k m : Nat), ds = [vD u, vD v] ∧ VB k u ∧ VB m v ∧ k + m ≤ 999990 ∧ Q (.d (.int (dot u v)))
theorem p_turn_of {G : Nat → DSp} : FnW G 2 2 m_turn_of sp_turn_of := by
  intro ds Q X ⟨u, v, k, m, e, hu, hv, l, q⟩
  subst e
  refine ⟨rfl, ?_⟩
  conv => whnf
  refine ⟨mul_ok hu.1 hv.2 (by omega), ?_⟩
  conv => whnf
  refine ⟨mul_ok hu.2 hv.1 (by omega), ?_⟩
  ((conv => whnf); repeat' (first | (refine wIf_tt ?_; conv => whnf) | (refine wIf_ff ?_; conv => whnf) | (refine wIf.mk (fun hif => (have hif := of_decide_eq_true hif; ?_)) (fun hif => (have hif := of_decide_eq_false hif; ?_)) <;> (conv => whnf)) | (refine wIf_not ?_) | (refine ⟨(by decide : (_ : Int) ≠ 0), fun w _ hw => ?_⟩; replace hw := hw (by decide); conv => whnf) | (refine ⟨(by decide : (_ : Int) ≠ 0), div_lit (by decide), fun w _ hw => ?_⟩; replace hw := hw (by decide); conv => whnf) | (refine eq_rD ?_; conv => whnf) | (refine eq_ts ?_; conv => whnf) | (refine ne_ts ?_; conv => whnf) | (refine ne_rD ?_; conv => whnf) | (refine eq_vD ?_; conv => whnf) | (refine ne_vD ?_; conv => whnf) | (refine ⟨isi_ok rfl, ?_⟩; conv => whnf) | (apply wMulS.mk; (first | exact mul_l (by decide) (by decide) | exact mul_r (by decide) (by decide) | exact mul_ok (by l_ints) (by l_ints) (by decide)); conv => whnf) | (refine ⟨⟨by decide, by decide, by decide⟩, ?_⟩; conv => whnf) | (refine ⟨⟨by decide, by decide, by omega⟩, ?_⟩; conv => whnf) | (refine ⟨small_sz (Nat.le_of_ble_eq_true rfl), ?_⟩; conv => whnf) | fail))
  exact q
theorem p_dot_of {G : Nat → DSp} : FnW G 2 2 m_dot_of sp_dot_of := by
  intro ds Q X ⟨u, v, k, m, e, hu, hv, l, q⟩
  subst e
  refine ⟨rfl, ?_⟩
  conv => whnf
  refine ⟨mul_ok hu.1 hv.1 (by omega), ?_⟩
  conv => whnf
  refine ⟨mul_ok hu.2 hv.2 (by omega), ?_⟩
  ((conv => whnf); repeat' (first | (refine wIf_tt ?_; conv => whnf) | (refine wIf_ff ?_; conv => whnf) | (refine wIf.mk (fun hif => (have hif := of_decide_eq_true hif; ?_)) (fun hif => (have hif := of_decide_eq_false hif; ?_)) <;> (conv => whnf)) | (refine wIf_not ?_) | (refine ⟨(by decide : (_ : Int) ≠ 0), fun w _ hw => ?_⟩; replace hw := hw (by decide); conv => whnf) | (refine ⟨(by decide : (_ : Int) ≠ 0), div_lit (by decide), fun w _ hw => ?_⟩; replace hw := hw (by decide); conv => whnf) | (refine eq_rD ?_; conv => whnf) | (refine eq_ts ?_; conv => whnf) | (refine ne_ts ?_; conv => whnf) | (refine ne_rD ?_; conv => whnf) | (refine eq_vD ?_; conv => whnf) | (refine ne_vD ?_; conv => whnf) | (refine ⟨isi_ok rfl, ?_⟩; conv => whnf) | (apply wMulS.mk; (first | exact mul_l (by decide) (by decide) | exact mul_r (by decide) (by decide) | exact mul_ok (by l_ints) (by l_ints) (by decide)); conv => whnf) | (refine ⟨⟨by decide, by decide, by decide⟩, ?_⟩; conv => whnf) | (refine ⟨⟨by decide, by decide, by omega⟩, ?_⟩; conv => whnf) | (refine ⟨small_sz (Nat.le_of_ble_eq_true rfl), ?_⟩; conv => whnf) | fail))
  exact q
def windD (vs : List Vec) : D := .tuple (vs.map vD)
structure IsFar (vs : List Vec) (b : Vec) (m : Int) : Prop where
  mem : ∃ v ∈ vs, dot v b = m
  le : ∀ v ∈ vs, dot v b ≤ m
theorem IsFar.uniq {vs : List Vec} {b : Vec} {m n : Int} (h : IsFar vs b m) (g : IsFar vs b n) : m = n := by
  obtain ⟨u, h1, h2⟩ := h.mem
  obtain ⟨v, g1, g2⟩ := g.mem
  have a := h.le v g1
  have b := g.le u h1
  omega
def sp_farthest : DSp := fun ds Q X => ∃ (vs : List Vec) (b : Vec) (k m : Nat), ds = [windD vs, vD b] ∧ vs ≠ [] ∧ (∀ v ∈ vs, VB k v) ∧ VB m b ∧ k + m ≤ 999990 ∧ ∀ f, IsFar vs b f → Q (.d (.int f))
theorem p_farthest {G : Nat → DSp} (g33 : G 33 = sp_dot_of) : FnW G 3 2 m_farthest sp_farthest := by
  intro ds Q X ⟨vs, b, k, m, e, hn, hv, hb, l, q⟩
  subst e
  refine ⟨rfl, ?_⟩
  conv => whnf
  refine lc_map1 vD (fun v => .int (dot v b)) vs (fun v hm k2 hk => ?_) ?_
  · conv => whnf
    refine gC g33 ⟨v, b, k, m, rfl, hv v hm, hb, l, ?_⟩
    conv => whnf
    exact hk
  conv => whnf
  refine ⟨vs.map fun v => dot v b, by rw [List.map_map]; rfl, by rw [List.length_map]; exact List.length_pos_iff.mpr hn, fun f h1 h2 => ?_⟩
  conv => whnf
  obtain ⟨v, h3, h4⟩ := List.mem_map.mp h1
  exact q f ⟨⟨v, h3, h4⟩, fun u hu => h2 _ (List.mem_map.mpr ⟨u, hu, rfl⟩)⟩
end DL
end
section
namespace DL
def m_law_stir : Ss := (.cons (.set 2 (.int 170141183460469231731687303715884105727)) (.cons (.set 3 (.bin .Mod (.bin .Add (.bin .Add (.bin .Mod (.v 0) (.bin .Pow (.int 10) (.int 60))) (.bin .Mult (.int 977) (.v 1))) (.int 12345)) (.v 2))) (.cons (.ret (.bin .Mod (.bin .Mult (.bin .Mod (.bin .Mult (.v 3) (.v 3)) (.v 2)) (.int 48271)) (.v 2))) .nil)))
end DL
end
section
namespace DL
def m_law_measure : Ss := (.cons (.whl (.cmp .NotEq (.v 1) (.int 0)) (.cons (.par2 0 1 (.v 1) (.bin .Mod (.v 0) (.v 1))) .nil)) (.cons (.ret (.bi .abs (.cons (.v 0) .nil))) .nil))
end DL
end
section
namespace DL
def m_law_fraction : Ss := (.cons (.set 2 (.bin .FloorDiv (.call 2 (.cons (.v 0) (.cons (.v 1) .nil))) (.int 7))) (.cons (.set 3 (.ix (.lst (.cons (.int 3) (.cons (.int 12) (.cons (.int 1000) (.cons (.bin .Pow (.int 10) (.int 17)) .nil))))) (.bin .Mod (.v 2) (.int 4)))) (.cons (.set 4 (.bin .Sub (.bin .Mod (.bin .FloorDiv (.v 2) (.int 4)) (.bin .Add (.bin .Mult (.int 2) (.v 3)) (.int 1))) (.v 3))) (.cons (.set 5 (.bin .Add (.int 1) (.bin .Mod (.bin .FloorDiv (.bin .FloorDiv (.v 2) (.int 4)) (.bin .Add (.bin .Mult (.int 2) (.v 3)) (.int 1))) (.ix (.lst (.cons (.int 4) (.cons (.int 12) (.cons (.int 60) (.cons (.bin .Pow (.int 10) (.int 17)) .nil))))) (.bin .Mod (.bin .FloorDiv (.v 2) (.int 9)) (.int 4)))))) (.cons (.ifs (.cmp .Eq (.bin .Mod (.bin .FloorDiv (.v 2) (.int 5)) (.int 11)) (.int 1)) (.cons (.set 4 (.bin .Mult (.bin .Sub (.bin .Mult (.bin .Mod (.v 2) (.int 2)) (.int 2)) (.int 1)) (.bin .Sub (.bin .Sub (.bin .Pow (.int 10) (.int 60)) (.int 1)) (.bin .Mod (.bin .FloorDiv (.v 2) (.int 70)) (.int 1000))))) .nil) .nil) (.cons (.ifs (.cmp .Eq (.bin .Mod (.bin .FloorDiv (.v 2) (.int 3)) (.int 13)) (.int 1)) (.cons (.set 5 (.bin .Sub (.bin .Sub (.bin .Pow (.int 10) (.int 60)) (.int 1)) (.bin .Mod (.bin .FloorDiv (.v 2) (.int 80)) (.int 1000)))) .nil) .nil) (.cons (.set 6 (.call 3 (.cons (.v 4) (.cons (.v 5) .nil)))) (.cons (.ret (.tup (.cons (.bin .FloorDiv (.v 4) (.v 6)) (.cons (.bin .FloorDiv (.v 5) (.v 6)) .nil)))) .nil))))))))
end DL
end
section
namespace DL
def m_law_is : Ss := (.cons (.ifs (.or (.not (.isi (.v 0) "tuple")) (.cmp .NotEq (.bi .len (.cons (.v 0) .nil)) (.int 2))) (.cons (.ret (.bl false)) .nil) .nil) (.cons (.for_ (.nm 3) (.ex (.v 0)) (.cons (.ifs (.or (.not (.isi (.v 3) "int")) (.isi (.v 3) "bool")) (.cons (.ret (.bl false)) .nil) .nil) .nil)) (.cons (.ifs (.or (.cmp .Lt (.ix (.v 0) (.int 1)) (.int 1)) (.cmp .NotEq (.call 3 (.cons (.ix (.v 0) (.int 0)) (.cons (.ix (.v 0) (.int 1)) .nil))) (.int 1))) (.cons (.ret (.bl false)) .nil) .nil) (.cons (.ret (.cmp .Eq (.bin .Mult (.ix (.v 0) (.int 0)) (.v 2)) (.bin .Mult (.v 1) (.ix (.v 0) (.int 1))))) .nil))))
end DL
end
section
namespace DL
def m_law_right : Ss := (.cons (.set 2 (.call 15 (.cons (.v 0) (.cons (.v 1) .nil)))) (.cons (.ret (.and (.isi (.v 2) "bool") (.cmp .Eq (.v 2) (.cmp .Lt (.bin .Sub (.bin .Mult (.ix (.v 0) (.int 0)) (.ix (.v 1) (.int 1))) (.bin .Mult (.ix (.v 1) (.int 0)) (.ix (.v 0) (.int 1)))) (.int 0))))) .nil))
end DL
end
section
set_option maxRecDepth 100000
set_option maxHeartbeats 4000000
set_option exponentiation.threshold 100000
namespace DL
open PySem L2
local macro_rules | `(tactic| l_ints) => `(tactic| first | (assumption) | (apply Bd.neg; l_ints) | (apply Bd.mul <;> l_ints) | (exact bd40 (by omega) (by omega)) | (apply Bd.add <;> l_ints) | (apply Bd.sub <;> l_ints) | (exact bd130 (by omega) (by omega)) | (exact bd210 (by omega) (by omega)) | (exact bd_self _) | fail)
def sp_law_stir : DSp := fun ds Q X => ∃ (a k : Int) (m : Nat), ds = [.int a, .int k] ∧ Bd m k ∧ m ≤ 900000 ∧ ∀ z : Int, 0 ≤ z → Bd 128 z → Q (.d (.int z))
theorem p_law_stir {G : Nat → DSp} : FnW G 4 2 m_law_stir sp_law_stir := by
  intro ds Q X ⟨a, k, m, e, hk, hm, q⟩
  subst e
  refine ⟨rfl, ?_⟩
  ((conv => whnf); repeat' (first | (refine wIf_tt ?_; conv => whnf) | (refine wIf_ff ?_; conv => whnf) | (refine wIf.mk (fun hif => (have hif := of_decide_eq_true hif; ?_)) (fun hif => (have hif := of_decide_eq_false hif; ?_)) <;> (conv => whnf)) | (refine wIf_not ?_) | (refine ⟨(by decide : (_ : Int) ≠ 0), fun w _ hw => ?_⟩; replace hw := hw (by decide); conv => whnf) | (refine ⟨(by decide : (_ : Int) ≠ 0), div_lit (by decide), fun w _ hw => ?_⟩; replace hw := hw (by decide); conv => whnf) | (refine eq_rD ?_; conv => whnf) | (refine eq_ts ?_; conv => whnf) | (refine ne_ts ?_; conv => whnf) | (refine ne_rD ?_; conv => whnf) | (refine eq_vD ?_; conv => whnf) | (refine ne_vD ?_; conv => whnf) | (refine ⟨isi_ok rfl, ?_⟩; conv => whnf) | (apply wMulS.mk; (first | exact mul_l (by decide) (by decide) | exact mul_r (by decide) (by decide) | exact mul_ok (by l_ints) (by l_ints) (by decide)); conv => whnf) | (refine ⟨⟨by decide, by decide, by decide⟩, ?_⟩; conv => whnf) | (refine ⟨⟨by decide, by decide, by omega⟩, ?_⟩; conv => whnf) | (refine ⟨small_sz (Nat.le_of_ble_eq_true rfl), ?_⟩; conv => whnf) | fail))
  exact q _ (by omega) (bd_of (by omega) (by omega))
def sp_law_measure : DSp := fun ds Q X => ∃ a b : Int, ds = [.int a, .int b] ∧ Q (.d (.int (Int.gcd a b)))
theorem gcd_stepF (x y : Int) (hy : y ≠ 0) : Int.gcd y (x.fmod y) = Int.gcd x y := by
  have h := Int.mul_fdiv_add_fmod x y
  have h2 := Int.gcd_add_mul_left_right y (x.fmod y) (x.fdiv y)
  rw [Int.add_comm, h] at h2
  rw [← h2, Int.gcd_comm]
theorem p_law_measure {G : Nat → DSp} : FnW G 2 2 m_law_measure sp_law_measure := by
  intro ds Q X ⟨a, b, e, q⟩
  subst e
  refine ⟨rfl, ?_⟩
  conv => whnf
  refine ⟨fun n ρ => ∃ x y : Int, ρ = [some (.d (.int x)), some (.d (.int y))] ∧ n = y.natAbs ∧ Int.gcd x y = Int.gcd a b, ⟨_, _, _, rfl, rfl, rfl⟩, ?_⟩
  rintro n ρ ⟨x, y, rfl, rfl, hg⟩
  conv => whnf
  refine ⟨fun h => ?_, fun h => ?_⟩
  · have h : y ≠ 0 := by simpa using h
    conv => whnf
    refine ⟨h, fun q hq hq' => ?_⟩
    conv => whnf
    subst hq
    refine ⟨_, ?_, _, _, rfl, rfl, by rw [gcd_stepF x y h]; exact hg⟩
    rcases Int.lt_or_lt_of_ne h with h1 | h1
    · have e : x.fmod y = -((-x).fmod (-y)) := by rw [Int.neg_fmod_neg, Int.neg_neg]
      have h2 := Int.fmod_nonneg_of_pos (-x) (show 0 < -y by omega)
      have h3 := Int.fmod_lt_of_pos (-x) (show 0 < -y by omega)
      omega
    · have h2 := Int.fmod_nonneg_of_pos x h1
      have h3 := Int.fmod_lt_of_pos x h1
      omega
  · have h : y = 0 := by simpa using h
    subst h
    conv => whnf
    have e : (if x < 0 then -x else x) = (Int.gcd a b : Int) := by rw [← hg, abs_if]; simp
    rw [e]
    exact q
def sp_law_fraction : DSp := fun ds Q X => ∃ (a k : Int) (m : Nat), ds = [.int a, .int k] ∧ Bd m k ∧ m ≤ 900000 ∧ ∀ r : Rat, RB 300 r → Q (.d (rD r))
theorem pick4 {i a b c d : Int} (h0 : 0 ≤ i) (h1 : i < 4) : ∃ z, atI [PyData.int a, .int b, .int c, .int d] i = some (.int z) ∧ (z = a ∨ z = b ∨ z = c ∨ z = d) := by
  obtain ⟨x, h2, h3⟩ := atI_mem (ds := [PyData.int a, .int b, .int c, .int d]) h0 (by simpa using h1)
  simp at h3
  rcases h3 with h3 | h3 | h3 | h3 <;> subst h3
  · exact ⟨a, h2, .inl rfl⟩
  · exact ⟨b, h2, .inr (.inl rfl)⟩
  · exact ⟨c, h2, .inr (.inr (.inl rfl))⟩
  · exact ⟨d, h2, .inr (.inr (.inr rfl))⟩
theorem p_law_fraction {G : Nat → DSp} (g2 : G 2 = sp_law_stir) (g3 : G 3 = sp_law_measure) : FnW G 7 2 m_law_fraction sp_law_fraction := by
  intro ds Q X ⟨a, k, m, e, hk, hm, q⟩
  subst e
  refine ⟨rfl, ?_⟩
  conv => whnf
  rw [g2]
  refine ⟨_, _, m, rfl, hk, hm, fun z hz bz => ?_⟩
  ((conv => whnf); repeat' (first | (refine wIf_tt ?_; conv => whnf) | (refine wIf_ff ?_; conv => whnf) | (refine wIf.mk (fun hif => (have hif := of_decide_eq_true hif; ?_)) (fun hif => (have hif := of_decide_eq_false hif; ?_)) <;> (conv => whnf)) | (refine wIf_not ?_) | (refine ⟨(by decide : (_ : Int) ≠ 0), fun w _ hw => ?_⟩; replace hw := hw (by decide); conv => whnf) | (refine ⟨(by decide : (_ : Int) ≠ 0), div_lit (by decide), fun w _ hw => ?_⟩; replace hw := hw (by decide); conv => whnf) | (refine eq_rD ?_; conv => whnf) | (refine eq_ts ?_; conv => whnf) | (refine ne_ts ?_; conv => whnf) | (refine ne_rD ?_; conv => whnf) | (refine eq_vD ?_; conv => whnf) | (refine ne_vD ?_; conv => whnf) | (refine ⟨isi_ok rfl, ?_⟩; conv => whnf) | (apply wMulS.mk; (first | exact mul_l (by decide) (by decide) | exact mul_r (by decide) (by decide) | exact mul_ok (by l_ints) (by l_ints) (by decide)); conv => whnf) | (refine ⟨⟨by decide, by decide, by decide⟩, ?_⟩; conv => whnf) | (refine ⟨⟨by decide, by decide, by omega⟩, ?_⟩; conv => whnf) | (refine ⟨small_sz (Nat.le_of_ble_eq_true rfl), ?_⟩; conv => whnf) | fail))
  obtain ⟨size, e1, hs⟩ := pick4 (i := w) (a := 3) (b := 12) (c := 1000) (d := 10 ^ (17 : Int).toNat) (by omega) (by omega)
  have hs1 : 3 ≤ size ∧ size ≤ 10 ^ 17 := by
    have : (10 : Int) ^ (17 : Int).toNat = 10 ^ 17 := rfl
    omega
  rw [e1]
  ((conv => whnf); repeat' (first | (refine wIf_tt ?_; conv => whnf) | (refine wIf_ff ?_; conv => whnf) | (refine wIf.mk (fun hif => (have hif := of_decide_eq_true hif; ?_)) (fun hif => (have hif := of_decide_eq_false hif; ?_)) <;> (conv => whnf)) | (refine wIf_not ?_) | (refine ⟨(by decide : (_ : Int) ≠ 0), fun w _ hw => ?_⟩; replace hw := hw (by decide); conv => whnf) | (refine ⟨(by decide : (_ : Int) ≠ 0), div_lit (by decide), fun w _ hw => ?_⟩; replace hw := hw (by decide); conv => whnf) | (refine eq_rD ?_; conv => whnf) | (refine eq_ts ?_; conv => whnf) | (refine ne_ts ?_; conv => whnf) | (refine ne_rD ?_; conv => whnf) | (refine eq_vD ?_; conv => whnf) | (refine ne_vD ?_; conv => whnf) | (refine ⟨isi_ok rfl, ?_⟩; conv => whnf) | (apply wMulS.mk; (first | exact mul_l (by decide) (by decide) | exact mul_r (by decide) (by decide) | exact mul_ok (by l_ints) (by l_ints) (by decide)); conv => whnf) | (refine ⟨⟨by decide, by decide, by decide⟩, ?_⟩; conv => whnf) | (refine ⟨⟨by decide, by decide, by omega⟩, ?_⟩; conv => whnf) | (refine ⟨small_sz (Nat.le_of_ble_eq_true rfl), ?_⟩; conv => whnf) | fail))
  have hp : (10 : Int) ^ (17 : Int).toNat = 10 ^ 17 := rfl
  have hp2 : (10 : Int) ^ (60 : Int).toNat = 10 ^ 60 := rfl
  refine ⟨by omega, fun t1 _ ht1 => ?_⟩
  have ht1 := ht1 (by omega)
  have ht2 := Int.emod_nonneg w (show 2 * size + 1 ≠ 0 by omega)
  have ht3 := Int.emod_lt_of_pos w (show 0 < 2 * size + 1 by omega)
  rw [← ht1] at ht2 ht3
  ((conv => whnf); repeat' (first | (refine wIf_tt ?_; conv => whnf) | (refine wIf_ff ?_; conv => whnf) | (refine wIf.mk (fun hif => (have hif := of_decide_eq_true hif; ?_)) (fun hif => (have hif := of_decide_eq_false hif; ?_)) <;> (conv => whnf)) | (refine wIf_not ?_) | (refine ⟨(by decide : (_ : Int) ≠ 0), fun w _ hw => ?_⟩; replace hw := hw (by decide); conv => whnf) | (refine ⟨(by decide : (_ : Int) ≠ 0), div_lit (by decide), fun w _ hw => ?_⟩; replace hw := hw (by decide); conv => whnf) | (refine eq_rD ?_; conv => whnf) | (refine eq_ts ?_; conv => whnf) | (refine ne_ts ?_; conv => whnf) | (refine ne_rD ?_; conv => whnf) | (refine eq_vD ?_; conv => whnf) | (refine ne_vD ?_; conv => whnf) | (refine ⟨isi_ok rfl, ?_⟩; conv => whnf) | (apply wMulS.mk; (first | exact mul_l (by decide) (by decide) | exact mul_r (by decide) (by decide) | exact mul_ok (by l_ints) (by l_ints) (by decide)); conv => whnf) | (refine ⟨⟨by decide, by decide, by decide⟩, ?_⟩; conv => whnf) | (refine ⟨⟨by decide, by decide, by omega⟩, ?_⟩; conv => whnf) | (refine ⟨small_sz (Nat.le_of_ble_eq_true rfl), ?_⟩; conv => whnf) | fail))
  have bs : Bd 63 (2 * size + 1) := bd_of (by omega) (by omega)
  refine ⟨by omega, div_ok bs (by decide), fun t2 _ _ => ?_⟩
  ((conv => whnf); repeat' (first | (refine wIf_tt ?_; conv => whnf) | (refine wIf_ff ?_; conv => whnf) | (refine wIf.mk (fun hif => (have hif := of_decide_eq_true hif; ?_)) (fun hif => (have hif := of_decide_eq_false hif; ?_)) <;> (conv => whnf)) | (refine wIf_not ?_) | (refine ⟨(by decide : (_ : Int) ≠ 0), fun w _ hw => ?_⟩; replace hw := hw (by decide); conv => whnf) | (refine ⟨(by decide : (_ : Int) ≠ 0), div_lit (by decide), fun w _ hw => ?_⟩; replace hw := hw (by decide); conv => whnf) | (refine eq_rD ?_; conv => whnf) | (refine eq_ts ?_; conv => whnf) | (refine ne_ts ?_; conv => whnf) | (refine ne_rD ?_; conv => whnf) | (refine eq_vD ?_; conv => whnf) | (refine ne_vD ?_; conv => whnf) | (refine ⟨isi_ok rfl, ?_⟩; conv => whnf) | (apply wMulS.mk; (first | exact mul_l (by decide) (by decide) | exact mul_r (by decide) (by decide) | exact mul_ok (by l_ints) (by l_ints) (by decide)); conv => whnf) | (refine ⟨⟨by decide, by decide, by decide⟩, ?_⟩; conv => whnf) | (refine ⟨⟨by decide, by decide, by omega⟩, ?_⟩; conv => whnf) | (refine ⟨small_sz (Nat.le_of_ble_eq_true rfl), ?_⟩; conv => whnf) | fail))
  obtain ⟨sz, e2, hs2⟩ := pick4 (i := w) (a := 4) (b := 12) (c := 60) (d := 10 ^ (17 : Int).toNat) (by omega) (by omega)
  rw [e2]
  have hs3 : 4 ≤ sz ∧ sz ≤ 10 ^ 17 := by omega
  conv => whnf
  refine ⟨by omega, fun t3 _ ht3 => ?_⟩
  have ht3 := ht3 (by omega)
  have ht4 := Int.emod_nonneg t2 (show sz ≠ 0 by omega)
  have ht5 := Int.emod_lt_of_pos t2 (show 0 < sz by omega)
  rw [← ht3] at ht4 ht5
  have bt : Bd 300 (t1 - size) := bd_of (by omega) (by omega)
  have bb : Bd 300 (1 + t3) := bd_of (by omega) (by omega)
  have fin : ∀ (t b : Int), Bd 300 t → Bd 300 b → 0 < b → ∀ u v : Int, u = t.fdiv (Int.gcd t b) → v = b.fdiv (Int.gcd t b) → Q (.d (.tuple [.int u, .int v])) := fun t b h1 h2 h3 u v hu hv => by
    obtain ⟨e3, e4⟩ := low_num (a := t) (b := b) (by omega) (Int.gcd t b : Int) (by rw [if_neg (by omega)])
    rw [hu, hv, e3, e4]
    exact q _ (RB.divInt h1 h2 (by omega))
  have st : ∀ (t b : Int), Bd 300 t → Bd 300 b → 0 < b → (Int.gcd t b : Int) ≠ 0 ∧ DivOk t (Int.gcd t b) ∧ DivOk b (Int.gcd t b) := fun t b h1 h2 h3 => by
    have g1 := Int.gcd_pos_of_ne_zero_right t (show b ≠ 0 by omega)
    exact ⟨by omega, div_ok (gcd_bd h2 (by omega)) (by decide), div_ok (gcd_bd h2 (by omega)) (by decide)⟩
  have go : ∀ (t b : Int) (W : R → Prop), Bd 300 t → Bd 300 b → 0 < b → (∀ g : Int, (g ≠ 0 ∧ DivOk t g ∧ DivOk b g ∧ ∀ u v : Int, u = t.fdiv g → v = b.fdiv g → Q (.d (.tuple [.int u, .int v]))) → W (.d (.int g))) → G 3 [.int t, .int b] W X := fun t b W h1 h2 h3 hW => gC g3 ⟨t, b, rfl, hW _ ⟨(st t b h1 h2 h3).1, (st t b h1 h2 h3).2.1, (st t b h1 h2 h3).2.2, fin t b h1 h2 h3⟩⟩
  ((conv => whnf); repeat' (first | (refine wIf_tt ?_; conv => whnf) | (refine wIf_ff ?_; conv => whnf) | (refine wIf.mk (fun hif => (have hif := of_decide_eq_true hif; ?_)) (fun hif => (have hif := of_decide_eq_false hif; ?_)) <;> (conv => whnf)) | (refine wIf_not ?_) | (refine ⟨(by decide : (_ : Int) ≠ 0), fun w _ hw => ?_⟩; replace hw := hw (by decide); conv => whnf) | (refine ⟨(by decide : (_ : Int) ≠ 0), div_lit (by decide), fun w _ hw => ?_⟩; replace hw := hw (by decide); conv => whnf) | (refine eq_rD ?_; conv => whnf) | (refine eq_ts ?_; conv => whnf) | (refine ne_ts ?_; conv => whnf) | (refine ne_rD ?_; conv => whnf) | (refine eq_vD ?_; conv => whnf) | (refine ne_vD ?_; conv => whnf) | (refine ⟨isi_ok rfl, ?_⟩; conv => whnf) | (apply wMulS.mk; (first | exact mul_l (by decide) (by decide) | exact mul_r (by decide) (by decide) | exact mul_ok (by l_ints) (by l_ints) (by decide)); conv => whnf) | (refine ⟨⟨by decide, by decide, by decide⟩, ?_⟩; conv => whnf) | (refine ⟨⟨by decide, by decide, by omega⟩, ?_⟩; conv => whnf) | (refine ⟨small_sz (Nat.le_of_ble_eq_true rfl), ?_⟩; conv => whnf) | fail))
  all_goals
    refine go _ _ _ (Bd.mono (by l_ints) (by decide)) (Bd.mono (by l_ints) (by decide)) (by omega) fun g ⟨k1, k2, k3, k4⟩ => ?_
    conv => whnf
    refine ⟨k1, k2, fun u hu _ => ?_⟩
    conv => whnf
    refine ⟨k1, k3, fun v hv _ => ?_⟩
    conv => whnf
    refine ⟨small_sz (Nat.le_of_ble_eq_true rfl), ?_⟩
    conv => whnf
    exact k4 u v hu hv
def sp_law_right : DSp := fun ds Q X => ∃ (r s : Rat) (m n : Nat), ds = [rD r, rD s] ∧ RB m r ∧ RB n s ∧ m + n ≤ 999990 ∧ Q (.d (.bool true))
theorem p_law_right {G : Nat → DSp} (g15 : G 15 = sp_is_before) : FnW G 3 2 m_law_right sp_law_right := by
  intro ds Q X ⟨r, s, m, n, e, hr, hs, l, q⟩
  subst e
  refine ⟨rfl, ?_⟩
  conv => whnf
  rw [g15]
  refine ⟨r, s, m, n, rfl, hr, hs, l, ?_⟩
  conv => whnf
  refine ⟨isi_ok rfl, ?_⟩
  conv => whnf
  refine wIf_tt ?_
  conv => whnf
  refine ⟨mul_ok hr.1 hs.2 (by omega), ?_⟩
  conv => whnf
  refine ⟨mul_ok hs.1 hr.2 (by omega), ?_⟩
  conv => whnf
  have e : decide (decide (r < s) = decide (r.num * (s.den : Int) - s.num * (r.den : Int) < 0)) = true := by
    rw [decide_eq_true_iff, Bool.eq_iff_iff, decide_eq_true_iff, decide_eq_true_iff, Rat.lt_iff]
    omega
  rw [show (fun i j => decide (i < j)) (r.num * (s.den : Int) - s.num * (r.den : Int)) 0 = decide (r.num * (s.den : Int) - s.num * (r.den : Int) < 0) from rfl, e]
  exact q
def sp_law_is : DSp := fun ds Q X => ∃ (r : Rat) (t b : Int) (m n : Nat), ds = [rD r, .int t, .int b] ∧ RB m r ∧ Bd n t ∧ Bd n b ∧ m + n ≤ 999990 ∧ r.num * b = t * r.den ∧ Q (.d (.bool true))
theorem rat_gcd (r : Rat) : Int.gcd r.num r.den = 1 := by
  have := r.reduced
  unfold Nat.Coprime at this
  unfold Int.gcd
  simpa using this
theorem p_law_is {G : Nat → DSp} (g3 : G 3 = sp_law_measure) : FnW G 4 3 m_law_is sp_law_is := by
  intro ds Q X ⟨r, t, b, m, n, e, hr, ht, hb, l, he, q⟩
  subst e
  refine ⟨rfl, ?_⟩
  have hd := r.den_pos
  ((conv => whnf); repeat' (first | (refine wIf_tt ?_; conv => whnf) | (refine wIf_ff ?_; conv => whnf) | (refine wIf.mk (fun hif => (have hif := of_decide_eq_true hif; ?_)) (fun hif => (have hif := of_decide_eq_false hif; ?_)) <;> (conv => whnf)) | (refine wIf_not ?_) | (refine ⟨(by decide : (_ : Int) ≠ 0), fun w _ hw => ?_⟩; replace hw := hw (by decide); conv => whnf) | (refine ⟨(by decide : (_ : Int) ≠ 0), div_lit (by decide), fun w _ hw => ?_⟩; replace hw := hw (by decide); conv => whnf) | (refine eq_rD ?_; conv => whnf) | (refine eq_ts ?_; conv => whnf) | (refine ne_ts ?_; conv => whnf) | (refine ne_rD ?_; conv => whnf) | (refine eq_vD ?_; conv => whnf) | (refine ne_vD ?_; conv => whnf) | (refine ⟨isi_ok rfl, ?_⟩; conv => whnf) | (apply wMulS.mk; (first | exact mul_l (by decide) (by decide) | exact mul_r (by decide) (by decide) | exact mul_ok (by l_ints) (by l_ints) (by decide)); conv => whnf) | (refine ⟨⟨by decide, by decide, by decide⟩, ?_⟩; conv => whnf) | (refine ⟨⟨by decide, by decide, by omega⟩, ?_⟩; conv => whnf) | (refine ⟨small_sz (Nat.le_of_ble_eq_true rfl), ?_⟩; conv => whnf) | fail))
  refine ⟨by decide, ?_⟩
  refine forLoop_ind (fun ds ρ => (∀ d ∈ ds, ∃ i : Int, d = .int i) ∧ ∃ x : Option R, ρ = [some (.d (rD r)), some (.d (.int t)), some (.d (.int b)), x]) ?_ ?_ _ _ ⟨by simp, _, rfl⟩
  · rintro ρ ⟨_, x, rfl⟩
    ((conv => whnf); repeat' (first | (rw [g3]; refine ⟨_, _, rfl, ?_⟩; conv => whnf) | (refine wIf_tt ?_; conv => whnf) | (refine wIf_ff ?_; conv => whnf) | (refine wIf.mk (fun hif => (have hif := of_decide_eq_true hif; ?_)) (fun hif => (have hif := of_decide_eq_false hif; ?_)) <;> (conv => whnf)) | (refine wIf_not ?_) | (refine ⟨(by decide : (_ : Int) ≠ 0), fun w _ hw => ?_⟩; replace hw := hw (by decide); conv => whnf) | (refine ⟨(by decide : (_ : Int) ≠ 0), div_lit (by decide), fun w _ hw => ?_⟩; replace hw := hw (by decide); conv => whnf) | (refine eq_rD ?_; conv => whnf) | (refine eq_ts ?_; conv => whnf) | (refine ne_ts ?_; conv => whnf) | (refine ne_rD ?_; conv => whnf) | (refine eq_vD ?_; conv => whnf) | (refine ne_vD ?_; conv => whnf) | (refine ⟨isi_ok rfl, ?_⟩; conv => whnf) | (apply wMulS.mk; (first | exact mul_l (by decide) (by decide) | exact mul_r (by decide) (by decide) | exact mul_ok (by l_ints) (by l_ints) (by decide)); conv => whnf) | (refine ⟨⟨by decide, by decide, by decide⟩, ?_⟩; conv => whnf) | (refine ⟨⟨by decide, by decide, by omega⟩, ?_⟩; conv => whnf) | (refine ⟨small_sz (Nat.le_of_ble_eq_true rfl), ?_⟩; conv => whnf) | fail))
    · omega
    · refine ⟨mul_ok hr.1 hb (by omega), ?_⟩
      conv => whnf
      refine ⟨mul_ok ht hr.2 (by omega), ?_⟩
      conv => whnf
      rw [he, decide_eq_true rfl]
      exact q
    · exact absurd (show ((r.num.gcd r.den : Nat) : Int) = 1 by rw [rat_gcd r]; rfl) (by assumption)
  · rintro d ds ρ ⟨h, x, rfl⟩ nx hnx
    obtain ⟨i, rfl⟩ := h d List.mem_cons_self
    ((conv => whnf); repeat' (first | (refine wIf_tt ?_; conv => whnf) | (refine wIf_ff ?_; conv => whnf) | (refine wIf.mk (fun hif => (have hif := of_decide_eq_true hif; ?_)) (fun hif => (have hif := of_decide_eq_false hif; ?_)) <;> (conv => whnf)) | (refine wIf_not ?_) | (refine ⟨(by decide : (_ : Int) ≠ 0), fun w _ hw => ?_⟩; replace hw := hw (by decide); conv => whnf) | (refine ⟨(by decide : (_ : Int) ≠ 0), div_lit (by decide), fun w _ hw => ?_⟩; replace hw := hw (by decide); conv => whnf) | (refine eq_rD ?_; conv => whnf) | (refine eq_ts ?_; conv => whnf) | (refine ne_ts ?_; conv => whnf) | (refine ne_rD ?_; conv => whnf) | (refine eq_vD ?_; conv => whnf) | (refine ne_vD ?_; conv => whnf) | (refine ⟨isi_ok rfl, ?_⟩; conv => whnf) | (apply wMulS.mk; (first | exact mul_l (by decide) (by decide) | exact mul_r (by decide) (by decide) | exact mul_ok (by l_ints) (by l_ints) (by decide)); conv => whnf) | (refine ⟨⟨by decide, by decide, by decide⟩, ?_⟩; conv => whnf) | (refine ⟨⟨by decide, by decide, by omega⟩, ?_⟩; conv => whnf) | (refine ⟨small_sz (Nat.le_of_ble_eq_true rfl), ?_⟩; conv => whnf) | fail))
    exact hnx _ ⟨fun d hd => h d (List.mem_cons_of_mem _ hd), _, rfl⟩
end DL
end
section
namespace DL
def m_shared_measure : Ss := (.cons (.set 1 (.int 0)) (.cons (.for_ (.nm 2) (.ex (.v 0)) (.cons (.set 3 (.bi .abs (.cons (.v 2) .nil))) (.cons (.whl (.cmp .Gt (.v 3) (.int 0)) (.cons (.par2 1 3 (.v 3) (.bin .Mod (.v 1) (.v 3))) .nil)) .nil))) (.cons (.ret (.v 1)) .nil)))
end DL
end
section
namespace DL
def m_place_lowest : Ss := (.cons (.set 3 (.call 18 (.cons (.lst (.cons (.v 0) (.cons (.v 1) (.cons (.v 2) .nil)))) .nil))) (.cons (.ret (.tup (.cons (.bin .FloorDiv (.v 0) (.v 3)) (.cons (.bin .FloorDiv (.v 1) (.v 3)) (.cons (.bin .FloorDiv (.v 2) (.v 3)) .nil))))) .nil))
end DL
end
section
namespace DL
def m_place_of : Ss := (.cons (.ret (.call 19 (.cons (.bin .Mult (.ix (.v 0) (.int 0)) (.ix (.v 1) (.int 1))) (.cons (.bin .Mult (.ix (.v 1) (.int 0)) (.ix (.v 0) (.int 1))) (.cons (.bin .Mult (.ix (.v 0) (.int 1)) (.ix (.v 1) (.int 1))) .nil))))) .nil)
end DL
end
section
namespace DL
def m_east_of : Ss := (.cons (.ret (.call 1 (.cons (.ix (.v 0) (.int 0)) (.cons (.ix (.v 0) (.int 2)) .nil)))) .nil)
end DL
end
section
namespace DL
def m_north_of : Ss := (.cons (.ret (.call 1 (.cons (.ix (.v 0) (.int 1)) (.cons (.ix (.v 0) (.int 2)) .nil)))) .nil)
end DL
end
section
namespace DL
def m_place_added : Ss := (.cons (.set 2 (.bin .Add (.bin .Mult (.ix (.v 0) (.int 0)) (.ix (.v 1) (.int 2))) (.bin .Mult (.ix (.v 1) (.int 0)) (.ix (.v 0) (.int 2))))) (.cons (.set 3 (.bin .Add (.bin .Mult (.ix (.v 0) (.int 1)) (.ix (.v 1) (.int 2))) (.bin .Mult (.ix (.v 1) (.int 1)) (.ix (.v 0) (.int 2))))) (.cons (.ret (.call 19 (.cons (.v 2) (.cons (.v 3) (.cons (.bin .Mult (.ix (.v 0) (.int 2)) (.ix (.v 1) (.int 2))) .nil))))) .nil)))
end DL
end
section
namespace DL
def m_place_taken : Ss := (.cons (.ret (.call 23 (.cons (.v 0) (.cons (.tup (.cons (.neg (.ix (.v 1) (.int 0))) (.cons (.neg (.ix (.v 1) (.int 1))) (.cons (.ix (.v 1) (.int 2)) .nil)))) .nil)))) .nil)
end DL
end
section
namespace DL
def m_place_times : Ss := (.cons (.ret (.call 19 (.cons (.bin .Mult (.ix (.v 0) (.int 0)) (.ix (.v 1) (.int 0))) (.cons (.bin .Mult (.ix (.v 0) (.int 1)) (.ix (.v 1) (.int 0))) (.cons (.bin .Mult (.ix (.v 0) (.int 2)) (.ix (.v 1) (.int 1))) .nil))))) .nil)
end DL
end
section
namespace DL
def m_along : Ss := (.cons (.ret (.call 1 (.cons (.bin .Add (.bin .Mult (.ix (.v 0) (.int 0)) (.ix (.v 1) (.int 0))) (.bin .Mult (.ix (.v 0) (.int 1)) (.ix (.v 1) (.int 1)))) (.cons (.ix (.v 1) (.int 2)) .nil)))) .nil)
end DL
end
section
set_option maxRecDepth 100000
set_option maxHeartbeats 4000000
set_option exponentiation.threshold 100000
namespace DL
open PySem L2
local macro_rules | `(tactic| l_ints) => `(tactic| first | (assumption) | (apply Bd.neg; l_ints) | (apply Bd.mul <;> l_ints) | (exact bd40 (by omega) (by omega)) | (apply Bd.add <;> l_ints) | (apply Bd.sub <;> l_ints) | (exact bd130 (by omega) (by omega)) | (exact bd210 (by omega) (by omega)) | (exact bd_self _) | fail)
abbrev Tri := Int × Int × Int
def pD (p : Tri) : D := .tuple [.int p.1, .int p.2.1, .int p.2.2]
def gcd3 (x y b : Int) : Nat := Int.gcd (Int.gcd x y) b
def plow (x y b : Int) : Tri := (x / gcd3 x y b, y / gcd3 x y b, b / gcd3 x y b)
def plc (e n : Rat) : Tri := plow (e.num * n.den) (n.num * e.den) (e.den * n.den)
def PD (e n : Rat) : D := pD (plc e n)
theorem gcd3_pos {x y b : Int} (hb : b ≠ 0) : 0 < gcd3 x y b := Int.gcd_pos_of_ne_zero_right _ hb
theorem gcd3_x {x y b : Int} : (gcd3 x y b : Int) ∣ x := Int.dvd_trans (Int.gcd_dvd_left ..) (Int.gcd_dvd_left ..)
theorem gcd3_y {x y b : Int} : (gcd3 x y b : Int) ∣ y := Int.dvd_trans (Int.gcd_dvd_left ..) (Int.gcd_dvd_right ..)
theorem gcd3_b {x y b : Int} : (gcd3 x y b : Int) ∣ b := Int.gcd_dvd_right ..
theorem gcd3_mul (x y b k : Int) : gcd3 (x * k) (y * k) (b * k) = gcd3 x y b * k.natAbs := by
  unfold gcd3
  rw [Int.gcd_mul_right]
  have : ((Int.gcd x y * k.natAbs : Nat) : Int).natAbs = ((Int.gcd x y : Int) * k).natAbs := by
    rw [Int.natAbs_mul]
    simp [Int.natAbs_mul]
  unfold Int.gcd at *
  rw [this, Int.natAbs_mul, Int.natAbs_mul, Nat.gcd_mul_right]
theorem dvd_gcd3 {d x y b : Int} (h1 : d ∣ x) (h2 : d ∣ y) (h3 : d ∣ b) : d ∣ (gcd3 x y b : Int) := Int.dvd_coe_gcd (Int.dvd_coe_gcd h1 h2) h3
structure PNorm (p : Tri) : Prop where
  pos : 0 < p.2.2
  one : gcd3 p.1 p.2.1 p.2.2 = 1
theorem plow_norm {x y b : Int} (hb : 0 < b) : PNorm (plow x y b) ∧ (plow x y b).1 * b = x * (plow x y b).2.2 ∧ (plow x y b).2.1 * b = y * (plow x y b).2.2 := by
  have g := gcd3_pos (x := x) (y := y) (show b ≠ 0 by omega)
  obtain ⟨u, hu⟩ := gcd3_x (x := x) (y := y) (b := b)
  obtain ⟨v, hv⟩ := gcd3_y (x := x) (y := y) (b := b)
  obtain ⟨w, hw⟩ := gcd3_b (x := x) (y := y) (b := b)
  generalize hG : gcd3 x y b = k at *
  have k0 : (k : Int) ≠ 0 := by omega
  have e1 : x / (k : Int) = u := by rw [hu, Int.mul_ediv_cancel_left _ k0]
  have e2 : y / (k : Int) = v := by rw [hv, Int.mul_ediv_cancel_left _ k0]
  have e3 : b / (k : Int) = w := by rw [hw, Int.mul_ediv_cancel_left _ k0]
  have e : plow x y b = (u, v, w) := by unfold plow; rw [hG, e1, e2, e3]
  rw [e]
  refine ⟨⟨?_, ?_⟩, ?_, ?_⟩
  · show 0 < w
    rcases Int.lt_trichotomy w 0 with h | h | h
    · have := Int.mul_neg_of_pos_of_neg (show (0 : Int) < k by omega) h
      omega
    · subst h; simp at hw; omega
    · exact h
  · show gcd3 u v w = 1
    have h := gcd3_mul u v w k
    rw [Int.mul_comm u, Int.mul_comm v, Int.mul_comm w, ← hu, ← hv, ← hw, hG] at h
    have h2 : k * 1 = k * gcd3 u v w := by rw [Nat.mul_one, Nat.mul_comm]; simpa using h
    exact (Nat.eq_of_mul_eq_mul_left g h2).symm
  · show u * b = x * w
    grind
  · show v * b = y * w
    grind
theorem norm_dvd {p q : Tri} (hp : PNorm p) (h1 : p.1 * q.2.2 = q.1 * p.2.2) (h2 : p.2.1 * q.2.2 = q.2.1 * p.2.2) : p.2.2 ∣ q.2.2 := by
  have d1 : p.2.2 ∣ p.1 * q.2.2 := ⟨q.1, by rw [h1, Int.mul_comm]⟩
  have d2 : p.2.2 ∣ p.2.1 * q.2.2 := ⟨q.2.1, by rw [h2, Int.mul_comm]⟩
  have d3 : p.2.2 ∣ p.2.2 * q.2.2 := ⟨_, rfl⟩
  have d := dvd_gcd3 d1 d2 d3
  rw [gcd3_mul, hp.one, Nat.one_mul] at d
  exact Int.dvd_natAbs.mp d
theorem norm_uniq {p q : Tri} (hp : PNorm p) (hq : PNorm q) (h1 : p.1 * q.2.2 = q.1 * p.2.2) (h2 : p.2.1 * q.2.2 = q.2.1 * p.2.2) : p = q := by
  have a := Int.le_of_dvd hq.pos (norm_dvd hp h1 h2)
  have b := Int.le_of_dvd hp.pos (norm_dvd hq h1.symm h2.symm)
  have e : p.2.2 = q.2.2 := Int.le_antisymm a b
  have n : q.2.2 ≠ 0 := by have := hq.pos; omega
  rw [e] at h1 h2
  obtain ⟨p1, p2, p3⟩ := p
  obtain ⟨q1, q2, q3⟩ := q
  simp only at e h1 h2 n
  rw [Int.mul_eq_mul_right_iff n] at h1 h2
  rw [h1, h2, e]
theorem plc_norm (e n : Rat) : PNorm (plc e n) ∧ (plc e n).1 * e.den = e.num * (plc e n).2.2 ∧ (plc e n).2.1 * n.den = n.num * (plc e n).2.2 := by
  have he := e.den_pos
  have hn := n.den_pos
  have hb : (0 : Int) < (e.den : Int) * n.den := Int.mul_pos (by omega) (by omega)
  obtain ⟨a, b, c⟩ := plow_norm (x := e.num * n.den) (y := n.num * e.den) hb
  refine ⟨a, ?_, ?_⟩
  · refine (Int.mul_eq_mul_right_iff (show (n.den : Int) ≠ 0 by omega)).mp ?_
    show (plow _ _ _).1 * e.den * n.den = e.num * (plow _ _ _).2.2 * n.den
    grind
  · refine (Int.mul_eq_mul_right_iff (show (e.den : Int) ≠ 0 by omega)).mp ?_
    show (plow _ _ _).2.1 * n.den * e.den = n.num * (plow _ _ _).2.2 * e.den
    grind
theorem plow_eq {x y b : Int} (hb : 0 < b) : plow x y b = plc (Rat.divInt x b) (Rat.divInt y b) := by
  obtain ⟨a1, a2, a3⟩ := plow_norm (x := x) (y := y) hb
  obtain ⟨b1, b2, b3⟩ := plc_norm (Rat.divInt x b) (Rat.divInt y b)
  have hb0 : b ≠ 0 := by omega
  have c1 := (Rat.divInt_eq_divInt_iff (den_ne (Rat.divInt x b)) hb0).mp (Rat.num_divInt_den (Rat.divInt x b))
  have c2 := (Rat.divInt_eq_divInt_iff (den_ne (Rat.divInt y b)) hb0).mp (Rat.num_divInt_den (Rat.divInt y b))
  have d1 := den_ne (Rat.divInt x b)
  have d2 := den_ne (Rat.divInt y b)
  generalize Rat.divInt x b = e at *
  generalize Rat.divInt y b = n at *
  generalize plow x y b = p at *
  generalize plc e n = q at *
  refine norm_uniq a1 b1 ?_ ?_
  · refine (Int.mul_eq_mul_right_iff (Int.mul_ne_zero hb0 d1)).mp ?_
    grind
  · refine (Int.mul_eq_mul_right_iff (Int.mul_ne_zero hb0 d2)).mp ?_
    grind
theorem plc_e (e n : Rat) : Rat.divInt (plc e n).1 (plc e n).2.2 = e ∧ Rat.divInt (plc e n).2.1 (plc e n).2.2 = n := by
  obtain ⟨b1, b2, b3⟩ := plc_norm e n
  have h := b1.pos
  constructor
  · exact ((Rat.divInt_eq_divInt_iff (show (plc e n).2.2 ≠ 0 by omega) (den_ne e)).mpr b2).trans (Rat.num_divInt_den e)
  · exact ((Rat.divInt_eq_divInt_iff (show (plc e n).2.2 ≠ 0 by omega) (den_ne n)).mpr b3).trans (Rat.num_divInt_den n)
def PB (k : Nat) (e n : Rat) : Prop := Bd k (plc e n).1 ∧ Bd k (plc e n).2.1 ∧ Bd k (plc e n).2.2
theorem PB.mono {m k : Nat} {e n : Rat} (h : PB m e n) (l : m ≤ k) : PB k e n := ⟨h.1.mono l, h.2.1.mono l, h.2.2.mono l⟩
theorem ediv_bd {k : Nat} {x : Int} (g : Nat) (h : Bd k x) : Bd k (x / g) := by
  exact h.le (Int.natAbs_ediv_le_natAbs x g)
theorem plow_bd {k : Nat} {x y b : Int} (h1 : Bd k x) (h2 : Bd k y) (h3 : Bd k b) : Bd k (plow x y b).1 ∧ Bd k (plow x y b).2.1 ∧ Bd k (plow x y b).2.2 := ⟨ediv_bd _ h1, ediv_bd _ h2, ediv_bd _ h3⟩
theorem PB.of {m k : Nat} {e n : Rat} (h : RB m e) (g : RB k n) : PB (m + k) e n := plow_bd (h.1.mul g.2) ((g.1.mul h.2).mono (by omega)) (h.2.mul g.2)
theorem PB.low {k : Nat} {x y b : Int} (hb : 0 < b) (h1 : Bd k x) (h2 : Bd k y) (h3 : Bd k b) : PB k (Rat.divInt x b) (Rat.divInt y b) := by
  unfold PB
  rw [← plow_eq hb]
  exact plow_bd h1 h2 h3
def sp_shared_measure : DSp := fun ds Q X => ∃ x y b : Int, ds = [.list [.int x, .int y, .int b]] ∧ Q (.d (.int (gcd3 x y b)))
theorem p_shared_measure {G : Nat → DSp} : FnW G 4 1 m_shared_measure sp_shared_measure := by
  intro ds Q X ⟨x, y, b, e, q⟩
  subst e
  refine ⟨rfl, ?_⟩
  ((conv => whnf); repeat' (first | (refine wIf_tt ?_; conv => whnf) | (refine wIf_ff ?_; conv => whnf) | (refine wIf.mk (fun hif => (have hif := of_decide_eq_true hif; ?_)) (fun hif => (have hif := of_decide_eq_false hif; ?_)) <;> (conv => whnf)) | (refine wIf_not ?_) | (refine ⟨(by decide : (_ : Int) ≠ 0), fun w _ hw => ?_⟩; replace hw := hw (by decide); conv => whnf) | (refine ⟨(by decide : (_ : Int) ≠ 0), div_lit (by decide), fun w _ hw => ?_⟩; replace hw := hw (by decide); conv => whnf) | (refine eq_rD ?_; conv => whnf) | (refine eq_ts ?_; conv => whnf) | (refine ne_ts ?_; conv => whnf) | (refine ne_rD ?_; conv => whnf) | (refine eq_vD ?_; conv => whnf) | (refine ne_vD ?_; conv => whnf) | (refine ⟨isi_ok rfl, ?_⟩; conv => whnf) | (apply wMulS.mk; (first | exact mul_l (by decide) (by decide) | exact mul_r (by decide) (by decide) | exact mul_ok (by l_ints) (by l_ints) (by decide)); conv => whnf) | (refine ⟨⟨by decide, by decide, by decide⟩, ?_⟩; conv => whnf) | (refine ⟨⟨by decide, by decide, by omega⟩, ?_⟩; conv => whnf) | (refine ⟨small_sz (Nat.le_of_ble_eq_true rfl), ?_⟩; conv => whnf) | fail))
  refine ⟨rfl, ?_⟩
  refine forLoop_ind (fun ds ρ => ∃ (zs : List Int) (f : Nat) (u v : Option R), ds = zs.map .int ∧ ρ = [some (.d (.list [.int x, .int y, .int b])), some (.d (.int f)), u, v] ∧ zs.foldl (fun (a : Nat) z => Int.gcd (a : Int) z) f = gcd3 x y b) ?_ ?_ _ _ ⟨[x, y, b], 0, none, none, rfl, rfl, ?_⟩
  · rintro ρ ⟨zs, f, u, v, e1, rfl, e2⟩
    have : zs = [] := by simpa using e1.symm
    subst this
    have e2 : f = gcd3 x y b := e2
    subst e2
    conv => whnf
    exact q
  · rintro d ds ρ ⟨zs, f, u, v, e1, rfl, e2⟩ nx hnx
    cases zs with
    | nil => cases e1
    | cons z zs =>
      cases e1
      conv => whnf
      refine ⟨fun n ρ => ∃ a c : Nat, ρ = [some (.d (.list [.int x, .int y, .int b])), some (.d (.int a)), some (.d (.int z)), some (.d (.int c))] ∧ n = c ∧ Nat.gcd a c = Int.gcd (f : Int) z, ⟨_, f, z.natAbs, ?_, rfl, ?_⟩, ?_⟩
      · rw [abs_if] <;> rfl
      · simp [Int.gcd]
      rintro n ρ ⟨a, c, rfl, rfl, hg⟩
      conv => whnf
      refine wIf.mk (fun h => ?_) (fun h => ?_)
      · have h : (0 : Int) < n := of_decide_eq_true h
        conv => whnf
        refine ⟨by omega, fun w _ hw => ?_⟩
        have hw := hw h
        have e3 : w = ((a % n : Nat) : Int) := by rw [hw]; simp
        subst e3
        conv => whnf
        have hl := Nat.mod_lt a (show 0 < n by omega)
        refine ⟨_, hl, n, a % n, rfl, rfl, ?_⟩
        rw [← hg, Nat.gcd_comm n, ← Nat.gcd_rec, Nat.gcd_comm]
      · have h : ¬ (0 : Int) < n := of_decide_eq_false h
        have h0 : n = 0 := by omega
        subst h0
        refine hnx _ ⟨zs, a, _, _, rfl, rfl, ?_⟩
        rw [← e2]
        simp only [List.foldl_cons]
        rw [← hg]
        simp
  · simp [gcd3, Int.gcd]
def sp_place_lowest : DSp := fun ds Q X => ∃ x y b : Int, ds = [.int x, .int y, .int b] ∧ Bd 8999 b ∧ 0 < b ∧ Q (.d (PD (Rat.divInt x b) (Rat.divInt y b)))
theorem p_place_lowest {G : Nat → DSp} (g18 : G 18 = sp_shared_measure) : FnW G 4 3 m_place_lowest sp_place_lowest := by
  intro ds Q X ⟨x, y, b, e, hb, h0, q⟩
  subst e
  refine ⟨rfl, ?_⟩
  ((conv => whnf); repeat' (first | (refine wIf_tt ?_; conv => whnf) | (refine wIf_ff ?_; conv => whnf) | (refine wIf.mk (fun hif => (have hif := of_decide_eq_true hif; ?_)) (fun hif => (have hif := of_decide_eq_false hif; ?_)) <;> (conv => whnf)) | (refine wIf_not ?_) | (refine ⟨(by decide : (_ : Int) ≠ 0), fun w _ hw => ?_⟩; replace hw := hw (by decide); conv => whnf) | (refine ⟨(by decide : (_ : Int) ≠ 0), div_lit (by decide), fun w _ hw => ?_⟩; replace hw := hw (by decide); conv => whnf) | (refine eq_rD ?_; conv => whnf) | (refine eq_ts ?_; conv => whnf) | (refine ne_ts ?_; conv => whnf) | (refine ne_rD ?_; conv => whnf) | (refine eq_vD ?_; conv => whnf) | (refine ne_vD ?_; conv => whnf) | (refine ⟨isi_ok rfl, ?_⟩; conv => whnf) | (apply wMulS.mk; (first | exact mul_l (by decide) (by decide) | exact mul_r (by decide) (by decide) | exact mul_ok (by l_ints) (by l_ints) (by decide)); conv => whnf) | (refine ⟨⟨by decide, by decide, by decide⟩, ?_⟩; conv => whnf) | (refine ⟨⟨by decide, by decide, by omega⟩, ?_⟩; conv => whnf) | (refine ⟨small_sz (Nat.le_of_ble_eq_true rfl), ?_⟩; conv => whnf) | fail))
  rw [g18]
  refine ⟨_, _, _, rfl, ?_⟩
  have gp := gcd3_pos (x := x) (y := y) (show b ≠ 0 by omega)
  have gb : Bd 8999 (gcd3 x y b : Int) := hb.le (by have := Int.le_of_dvd h0 (gcd3_b (x := x) (y := y) (b := b)); omega)
  have gn : (gcd3 x y b : Int) ≠ 0 := by omega
  have gd := fun z => div_ok (x := z) gb (by decide)
  conv => whnf
  refine ⟨gn, gd _, fun u _ hu => ?_⟩
  have hu := hu (by omega)
  conv => whnf
  refine ⟨gn, gd _, fun v _ hv => ?_⟩
  have hv := hv (by omega)
  conv => whnf
  refine ⟨gn, gd _, fun w _ hw => ?_⟩
  have hw := hw (by omega)
  ((conv => whnf); repeat' (first | (refine wIf_tt ?_; conv => whnf) | (refine wIf_ff ?_; conv => whnf) | (refine wIf.mk (fun hif => (have hif := of_decide_eq_true hif; ?_)) (fun hif => (have hif := of_decide_eq_false hif; ?_)) <;> (conv => whnf)) | (refine wIf_not ?_) | (refine ⟨(by decide : (_ : Int) ≠ 0), fun w _ hw => ?_⟩; replace hw := hw (by decide); conv => whnf) | (refine ⟨(by decide : (_ : Int) ≠ 0), div_lit (by decide), fun w _ hw => ?_⟩; replace hw := hw (by decide); conv => whnf) | (refine eq_rD ?_; conv => whnf) | (refine eq_ts ?_; conv => whnf) | (refine ne_ts ?_; conv => whnf) | (refine ne_rD ?_; conv => whnf) | (refine eq_vD ?_; conv => whnf) | (refine ne_vD ?_; conv => whnf) | (refine ⟨isi_ok rfl, ?_⟩; conv => whnf) | (apply wMulS.mk; (first | exact mul_l (by decide) (by decide) | exact mul_r (by decide) (by decide) | exact mul_ok (by l_ints) (by l_ints) (by decide)); conv => whnf) | (refine ⟨⟨by decide, by decide, by decide⟩, ?_⟩; conv => whnf) | (refine ⟨⟨by decide, by decide, by omega⟩, ?_⟩; conv => whnf) | (refine ⟨small_sz (Nat.le_of_ble_eq_true rfl), ?_⟩; conv => whnf) | fail))
  subst hu hv hw
  have := plow_eq (x := x) (y := y) h0
  unfold PD pD at q
  rw [← this] at q
  exact q
def sp_place_of : DSp := fun ds Q X => ∃ (e n : Rat) (k m : Nat), ds = [rD e, rD n] ∧ RB k e ∧ RB m n ∧ k + m ≤ 8990 ∧ Q (.d (PD e n))
def sp_east_of : DSp := fun ds Q X => ∃ (e n : Rat), ds = [PD e n] ∧ PB 8990 e n ∧ Q (.d (rD e))
def sp_north_of : DSp := fun ds Q X => ∃ (e n : Rat), ds = [PD e n] ∧ PB 8990 e n ∧ Q (.d (rD n))
def sp_place_added : DSp := fun ds Q X => ∃ (e n e' n' : Rat) (k m : Nat), ds = [PD e n, PD e' n'] ∧ PB k e n ∧ PB m e' n' ∧ k + m ≤ 8990 ∧ Q (.d (PD (e + e') (n + n')))
def sp_place_taken : DSp := fun ds Q X => ∃ (e n e' n' : Rat) (k m : Nat), ds = [PD e n, PD e' n'] ∧ PB k e n ∧ PB m e' n' ∧ k + m ≤ 8990 ∧ Q (.d (PD (e - e') (n - n')))
def sp_place_times : DSp := fun ds Q X => ∃ (e n r : Rat) (k m : Nat), ds = [PD e n, rD r] ∧ PB k e n ∧ RB m r ∧ k + m ≤ 8990 ∧ Q (.d (PD (e * r) (n * r)))
def sp_along : DSp := fun ds Q X => ∃ (a b : Int) (e n : Rat) (k m : Nat), ds = [vD (a, b), PD e n] ∧ PB k e n ∧ Bd m a ∧ Bd m b ∧ k + m ≤ 8990 ∧ Q (.d (rD (a * e + b * n)))
theorem p_place_of {G : Nat → DSp} (g19 : G 19 = sp_place_lowest) : FnW G 2 2 m_place_of sp_place_of := by
  intro ds Q X ⟨e, n, k, m, e0, he, hn, l, q⟩
  subst e0
  refine ⟨rfl, ?_⟩
  conv => whnf
  refine ⟨mul_ok he.1 hn.2 (by omega), ?_⟩
  conv => whnf
  refine ⟨mul_ok hn.1 he.2 (by omega), ?_⟩
  conv => whnf
  refine ⟨mul_ok he.2 hn.2 (by omega), ?_⟩
  conv => whnf
  have hd := e.den_pos
  have hd2 := n.den_pos
  have hp : (0 : Int) < (e.den : Int) * n.den := Int.mul_pos (by omega) (by omega)
  rw [g19]
  refine ⟨_, _, _, rfl, (he.2.mul hn.2).mono (by omega), hp, ?_⟩
  have e1 : Rat.divInt (e.num * n.den) (e.den * n.den) = e := by rw [Rat.divInt_mul_right (den_ne n), Rat.num_divInt_den]
  have e2 : Rat.divInt (n.num * e.den) (e.den * n.den) = n := by rw [Int.mul_comm (e.den : Int), Rat.divInt_mul_right (den_ne e), Rat.num_divInt_den]
  rw [e1, e2]
  exact q
theorem plc_pos (e n : Rat) : 0 < (plc e n).2.2 := (plc_norm e n).1.pos
theorem p_east_of {G : Nat → DSp} (g1 : G 1 = sp_lowest) : FnW G 1 1 m_east_of sp_east_of := by
  intro ds Q X ⟨e, n, e0, hb, q⟩
  subst e0
  refine ⟨rfl, ?_⟩
  have := plc_pos e n
  conv => whnf
  rw [g1]
  refine ⟨_, _, rfl, hb.2.2.mono (by decide), fun z => absurd z (by omega), fun _ => ?_⟩
  rw [(plc_e e n).1]
  exact q
theorem p_north_of {G : Nat → DSp} (g1 : G 1 = sp_lowest) : FnW G 1 1 m_north_of sp_north_of := by
  intro ds Q X ⟨e, n, e0, hb, q⟩
  subst e0
  refine ⟨rfl, ?_⟩
  have := plc_pos e n
  conv => whnf
  rw [g1]
  refine ⟨_, _, rfl, hb.2.2.mono (by decide), fun z => absurd z (by omega), fun _ => ?_⟩
  rw [(plc_e e n).2]
  exact q
theorem tri_add {x y b x' y' b' : Int} (h : 0 < b) (h' : 0 < b') : Rat.divInt (x * b' + x' * b) (b * b') = Rat.divInt x b + Rat.divInt x' b' := (Rat.divInt_add_divInt _ _ (by omega) (by omega)).symm
def sp_pa (sg : Int) : DSp := fun ds Q X => ∃ (p p' : Tri) (k m : Nat), ds = [pD p, pD p'] ∧ 0 < p.2.2 ∧ 0 < p'.2.2 ∧ Bd k p.1 ∧ Bd k p.2.1 ∧ Bd k p.2.2 ∧ Bd m p'.1 ∧ Bd m p'.2.1 ∧ Bd m p'.2.2 ∧ k + m ≤ 8990 ∧
  Q (.d (PD (Rat.divInt p.1 p.2.2 + Rat.divInt p'.1 p'.2.2) (Rat.divInt p.2.1 p.2.2 + Rat.divInt p'.2.1 p'.2.2)))
theorem pa_core {G : Nat → DSp} (g19 : G 19 = sp_place_lowest) : FnW G 4 2 m_place_added (sp_pa 1) := by
  intro ds Q X ⟨p, p', k, m, e0, h1, h2, b1, b2, b3, c1, c2, c3, l, q⟩
  subst e0
  refine ⟨rfl, ?_⟩
  conv => whnf
  refine ⟨mul_ok b1 c3 (by omega), ?_⟩
  conv => whnf
  refine ⟨mul_ok c1 b3 (by omega), ?_⟩
  conv => whnf
  refine ⟨mul_ok b2 c3 (by omega), ?_⟩
  conv => whnf
  refine ⟨mul_ok c2 b3 (by omega), ?_⟩
  conv => whnf
  refine ⟨mul_ok b3 c3 (by omega), ?_⟩
  conv => whnf
  rw [g19]
  refine ⟨_, _, _, rfl, (b3.mul c3).mono (by omega), Int.mul_pos h1 h2, ?_⟩
  rw [Rat.divInt_add_divInt _ _ (by omega) (by omega), Rat.divInt_add_divInt _ _ (by omega) (by omega)] at q
  exact q
theorem p_place_added {G : Nat → DSp} (g19 : G 19 = sp_place_lowest) : FnW G 4 2 m_place_added sp_place_added := by
  intro ds Q X ⟨e, n, e', n', k, m, e0, h, h', l, q⟩
  refine pa_core g19 ds Q X ⟨plc e n, plc e' n', k, m, e0, plc_pos .., plc_pos .., h.1, h.2.1, h.2.2, h'.1, h'.2.1, h'.2.2, l, ?_⟩
  rw [(plc_e e n).1, (plc_e e n).2, (plc_e e' n').1, (plc_e e' n').2]
  exact q
theorem gcd3_neg (x y b : Int) : gcd3 (-x) (-y) b = gcd3 x y b := by simp [gcd3, Int.gcd]
theorem plc_neg (e n : Rat) : plc (-e) (-n) = (-(plc e n).1, -(plc e n).2.1, (plc e n).2.2) := by
  obtain ⟨a1, a2, a3⟩ := plc_norm e n
  obtain ⟨b1, b2, b3⟩ := plc_norm (-e) (-n)
  rw [Rat.neg_num, Rat.neg_den] at b2 b3
  have he := den_ne e
  have hn := den_ne n
  refine norm_uniq b1 ⟨a1.pos, by rw [gcd3_neg]; exact a1.one⟩ ?_ ?_
  · refine (Int.mul_eq_mul_right_iff he).mp ?_
    show (plc (-e) (-n)).1 * (plc e n).2.2 * e.den = -(plc e n).1 * (plc (-e) (-n)).2.2 * e.den
    generalize plc e n = p at *
    generalize plc (-e) (-n) = q at *
    grind
  · refine (Int.mul_eq_mul_right_iff hn).mp ?_
    show (plc (-e) (-n)).2.1 * (plc e n).2.2 * n.den = -(plc e n).2.1 * (plc (-e) (-n)).2.2 * n.den
    generalize plc e n = p at *
    generalize plc (-e) (-n) = q at *
    grind
theorem plc_int (a b : Int) : plc a b = (a, b, 1) := by
  unfold plc plow
  simp [gcd3]
theorem p_place_taken {G : Nat → DSp} (g23 : G 23 = sp_place_added) : FnW G 2 2 m_place_taken sp_place_taken := by
  intro ds Q X ⟨e, n, e', n', k, m, e0, h, h', l, q⟩
  subst e0
  refine ⟨rfl, ?_⟩
  have e1 := plc_neg e' n'
  have hb : PB m (-e') (-n') := by
    unfold PB
    rw [e1]
    exact ⟨h'.1.neg, h'.2.1.neg, h'.2.2⟩
  ((conv => whnf); repeat' (first | (refine wIf_tt ?_; conv => whnf) | (refine wIf_ff ?_; conv => whnf) | (refine wIf.mk (fun hif => (have hif := of_decide_eq_true hif; ?_)) (fun hif => (have hif := of_decide_eq_false hif; ?_)) <;> (conv => whnf)) | (refine wIf_not ?_) | (refine ⟨(by decide : (_ : Int) ≠ 0), fun w _ hw => ?_⟩; replace hw := hw (by decide); conv => whnf) | (refine ⟨(by decide : (_ : Int) ≠ 0), div_lit (by decide), fun w _ hw => ?_⟩; replace hw := hw (by decide); conv => whnf) | (refine eq_rD ?_; conv => whnf) | (refine eq_ts ?_; conv => whnf) | (refine ne_ts ?_; conv => whnf) | (refine ne_rD ?_; conv => whnf) | (refine eq_vD ?_; conv => whnf) | (refine ne_vD ?_; conv => whnf) | (refine ⟨isi_ok rfl, ?_⟩; conv => whnf) | (apply wMulS.mk; (first | exact mul_l (by decide) (by decide) | exact mul_r (by decide) (by decide) | exact mul_ok (by l_ints) (by l_ints) (by decide)); conv => whnf) | (refine ⟨⟨by decide, by decide, by decide⟩, ?_⟩; conv => whnf) | (refine ⟨⟨by decide, by decide, by omega⟩, ?_⟩; conv => whnf) | (refine ⟨small_sz (Nat.le_of_ble_eq_true rfl), ?_⟩; conv => whnf) | fail))
  rw [g23]
  refine ⟨e, n, -e', -n', k, m, ?_, h, hb, l, ?_⟩
  · unfold PD
    rw [e1]
    rfl
  · rw [Rat.sub_eq_add_neg, Rat.sub_eq_add_neg] at q
    exact q
theorem p_place_times {G : Nat → DSp} (g19 : G 19 = sp_place_lowest) : FnW G 2 2 m_place_times sp_place_times := by
  intro ds Q X ⟨e, n, r, k, m, e0, h, hr, l, q⟩
  subst e0
  refine ⟨rfl, ?_⟩
  conv => whnf
  refine ⟨mul_ok h.1 hr.1 (by omega), ?_⟩
  conv => whnf
  refine ⟨mul_ok h.2.1 hr.1 (by omega), ?_⟩
  conv => whnf
  refine ⟨mul_ok h.2.2 hr.2 (by omega), ?_⟩
  conv => whnf
  have h1 := plc_pos e n
  have h2 := r.den_pos
  rw [g19]
  refine ⟨_, _, _, rfl, (h.2.2.mul hr.2).mono (by omega), Int.mul_pos h1 (by omega), ?_⟩
  rw [← Rat.divInt_mul_divInt, ← Rat.divInt_mul_divInt, (plc_e e n).1, (plc_e e n).2, Rat.num_divInt_den]
  exact q
theorem along_eq (a b : Int) (e n : Rat) : Rat.divInt (a * (plc e n).1 + b * (plc e n).2.1) (plc e n).2.2 = a * e + b * n := by
  have hp := plc_pos e n
  have h1 := (plc_e e n).1
  have h2 := (plc_e e n).2
  rw [Rat.divInt_eq_div] at h1 h2 ⊢
  rw [Rat.intCast_add, Rat.intCast_mul, Rat.intCast_mul]
  generalize (plc e n).2.2 = c at *
  generalize (plc e n).1 = x at *
  generalize (plc e n).2.1 = y at *
  have hc : (c : Rat) ≠ 0 := fun z => by have := Rat.intCast_inj.mp (z.trans (by rfl : (0 : Rat) = ((0 : Int) : Rat))); omega
  grind
theorem p_along {G : Nat → DSp} (g1 : G 1 = sp_lowest) : FnW G 2 2 m_along sp_along := by
  intro ds Q X ⟨a, b, e, n, k, m, e0, h, ha, hb, l, q⟩
  subst e0
  refine ⟨rfl, ?_⟩
  conv => whnf
  refine ⟨mul_ok ha h.1 (by omega), ?_⟩
  conv => whnf
  refine ⟨mul_ok hb h.2.1 (by omega), ?_⟩
  conv => whnf
  have h1 := plc_pos e n
  rw [g1]
  refine ⟨_, _, rfl, h.2.2.mono (by omega), fun z => absurd z (by omega), fun _ => ?_⟩
  rw [along_eq]
  exact q
theorem PB.add {k m : Nat} {e n e' n' : Rat} (h : PB k e n) (h' : PB m e' n') : PB (k + m + 1) (e + e') (n + n') := by
  have h1 := plc_pos e n
  have h2 := plc_pos e' n'
  have a := PB.low (Int.mul_pos h1 h2) (((h.1.mul h'.2.2).add (h'.1.mul h.2.2)).mono (show _ ≤ k + m + 1 by omega)) (((h.2.1.mul h'.2.2).add (h'.2.1.mul h.2.2)).mono (by omega)) ((h.2.2.mul h'.2.2).mono (by omega))
  rw [← Rat.divInt_add_divInt _ _ (by omega) (by omega), ← Rat.divInt_add_divInt _ _ (by omega) (by omega), (plc_e e n).1, (plc_e e n).2, (plc_e e' n').1, (plc_e e' n').2] at a
  exact a
theorem PB.neg {k : Nat} {e n : Rat} (h : PB k e n) : PB k (-e) (-n) := by
  unfold PB
  rw [plc_neg]
  exact ⟨h.1.neg, h.2.1.neg, h.2.2⟩
theorem PB.times {k m : Nat} {e n r : Rat} (h : PB k e n) (hr : RB m r) : PB (k + m) (e * r) (n * r) := by
  have h1 := plc_pos e n
  have h2 := r.den_pos
  have a := PB.low (Int.mul_pos h1 (show (0 : Int) < r.den by omega)) (h.1.mul hr.1) (h.2.1.mul hr.1) (h.2.2.mul hr.2)
  rw [← Rat.divInt_mul_divInt, ← Rat.divInt_mul_divInt, (plc_e e n).1, (plc_e e n).2, Rat.num_divInt_den] at a
  exact a
end DL
end
section
namespace DL
def m_law_3 : Ss := (.cons (.set 1 (.bin .Add (.lc (.call 4 (.cons (.v 2) (.cons (.int 0) .nil))) (.nm 2) (.ex (.sl (.v 0) .nil (.cons (.int 60) .nil))) .nil [("cell", 2)]) (.lst (.cons (.tup (.cons (.int 0) (.cons (.int 1) .nil))) .nil)))) (.cons (.frz 1) (.cons (.for_ (.nm 3) (.rng1 (.bi .len (.cons (.v 1) .nil))) (.cons (.set 4 (.call 3 (.cons (.bin .Add (.bin .Mult (.ix (.ix (.v 1) (.v 3)) (.int 0)) (.int 1000)) (.ix (.ix (.v 1) (.v 3)) (.int 1))) (.cons (.bin .Mult (.ix (.ix (.v 1) (.v 3)) (.int 1)) (.int 1000)) .nil)))) (.cons (.set 5 (.tup (.cons (.bin .FloorDiv (.bin .Add (.bin .Mult (.ix (.ix (.v 1) (.v 3)) (.int 0)) (.int 1000)) (.ix (.ix (.v 1) (.v 3)) (.int 1))) (.v 4)) (.cons (.bin .FloorDiv (.bin .Mult (.ix (.ix (.v 1) (.v 3)) (.int 1)) (.int 1000)) (.v 4)) .nil)))) (.cons (.for_ (.nm 6) (.ex (.lst (.cons (.ix (.v 1) (.v 3)) (.cons (.ix (.v 1) (.bin .Mod (.bin .Add (.v 3) (.int 1)) (.bi .len (.cons (.v 1) .nil)))) (.cons (.v 5) (.cons (.tup (.cons (.int 0) (.cons (.int 1) .nil))) .nil)))))) (.cons (.ifs (.or (.not (.call 16 (.cons (.ix (.v 1) (.v 3)) (.cons (.v 6) .nil)))) (.not (.call 16 (.cons (.v 6) (.cons (.ix (.v 1) (.v 3)) .nil))))) (.cons (.ret (.bl false)) .nil) .nil) (.cons (.ifs (.and (.call 15 (.cons (.ix (.v 1) (.v 3)) (.cons (.v 6) .nil))) (.or (.call 15 (.cons (.v 6) (.cons (.ix (.v 1) (.v 3)) .nil))) (.cmp .Eq (.ix (.v 1) (.v 3)) (.v 6)))) (.cons (.ret (.bl false)) .nil) .nil) (.cons (.ifs (.and (.cmp .NotEq (.ix (.v 1) (.v 3)) (.v 6)) (.cmp .Eq (.call 15 (.cons (.ix (.v 1) (.v 3)) (.cons (.v 6) .nil))) (.call 15 (.cons (.v 6) (.cons (.ix (.v 1) (.v 3)) .nil))))) (.cons (.ret (.bl false)) .nil) .nil) (.cons (.ifs (.cmp .NotEq (.call 15 (.cons (.call 8 (.cons (.ix (.v 1) (.v 3)) (.cons (.v 5) .nil))) (.cons (.call 8 (.cons (.v 6) (.cons (.v 5) .nil))) .nil))) (.call 15 (.cons (.ix (.v 1) (.v 3)) (.cons (.v 6) .nil)))) (.cons (.ret (.bl false)) .nil) .nil) .nil))))) .nil)))) (.cons (.ret (.bl true)) .nil))))
end DL
end
section
set_option maxRecDepth 100000
set_option maxHeartbeats 4000000
set_option exponentiation.threshold 100000
namespace DL
open PySem L2
local macro_rules | `(tactic| l_ints) => `(tactic| first | (assumption) | (apply Bd.neg; l_ints) | (apply Bd.mul <;> l_ints) | (exact bd40 (by omega) (by omega)) | (apply Bd.add <;> l_ints) | (apply Bd.sub <;> l_ints) | (exact bd130 (by omega) (by omega)) | (exact bd210 (by omega) (by omega)) | (exact bd_self _) | fail)
theorem row_lc {G : Nat → DSp} (g4 : G 4 = sp_law_fraction) {ρ : En} {t : Nat} (ht : t < ρ.length) {el : En → (R → Prop) → Prop} (xs : List Int) (Q : R → Prop)
    (hel : ∀ (x : Int) (k : D → Prop), (∀ r, RB 300 r → k (rD r)) → el (ρ.set t (some (.d (.int x)))) fun r => frzP r k)
    (q : ∀ rs : List Rat, rs.length = xs.length → (∀ r ∈ rs, RB 300 r) → Q (.l (rs.map rD) true)) : lcLoop (stT (.nm t)) (fun ρ2 k => wCond G .nil ρ2 k) el ρ (xs.map .int) [] Q := by
  refine lc_ind (fun ds acc => ∃ ys rs, ds = ys.map PyData.int ∧ acc = rs.map rD ∧ rs.length + ys.length = xs.length ∧ ∀ r ∈ rs, RB 300 r) ?_ ?_ _ _ ⟨xs, [], rfl, rfl, by simp, by simp⟩
  · rintro acc ⟨ys, rs, e1, e2, e3, e4⟩
    have : ys = [] := by simpa using e1.symm
    subst this e2
    exact q rs (by simpa using e3) e4
  · rintro d ds acc ⟨ys, rs, e1, e2, e3, e4⟩ k hk
    cases ys with
    | nil => cases e1
    | cons y ys =>
      cases e1
      subst e2
      refine ⟨fun _ => hel y _ fun r hr => hk _ ⟨ys, rs ++ [r], rfl, by simp, by simp at e3 ⊢; omega, ?_⟩, fun z => nomatch z⟩
      intro r' h'
      rcases List.mem_append.mp h' with h | h
      · exact e4 r' h
      · rw [List.mem_singleton.mp h]; exact hr
theorem rng_ind {st : D → En → (En → Prop) → Prop} {body : DE → En → Prop} {E : DE} (P : Nat → En → Prop) (n : Nat) (h0 : ∀ ρ, P n ρ → E.nx ρ)
    (h1 : ∀ i ρ, i < n → P i ρ → ∀ nx : En → Prop, (∀ ρ', P (i + 1) ρ' → nx ρ') → st (.int i) ρ fun ρ2 => body { E with nx := nx, bk := E.nx } ρ2) (ρ : En) (h : P 0 ρ) : forLoop st body E (rngD 0 n) ρ := by
  refine forLoop_ind (fun ds ρ => ∃ i, i ≤ n ∧ ds = (rngD 0 n).drop i ∧ P i ρ) ?_ ?_ _ _ ⟨0, by omega, rfl, h⟩
  · rintro ρ ⟨i, hi, e, p⟩
    have : n ≤ i := by
      have := congrArg List.length e
      rw [List.length_drop, rng_len] at this
      simp at this
      omega
    have : i = n := by omega
    subst this
    exact h0 ρ p
  · rintro d ds ρ ⟨i, hi, e, p⟩ nx hnx
    have hlt : i < n := by
      have := congrArg List.length e
      rw [List.length_drop, rng_len] at this
      simp at this
      omega
    have e2 : (rngD 0 n).drop i = (.int (i : Int)) :: (rngD 0 n).drop (i + 1) := by
      rw [List.drop_eq_getElem_cons (by rw [rng_len]; exact hlt)]
      congr 1
      unfold rngD
      simp
    rw [e2] at e
    cases e
    exact h1 i ρ hlt p nx fun ρ' p' => hnx ρ' ⟨i + 1, by omega, rfl, p'⟩
def RowD (rs : List Rat) : D := .list (rs.map rD)
theorem row_at {rs : List Rat} {i : Int} (h0 : 0 ≤ i) (h1 : i < rs.length) (hb : ∀ r ∈ rs, RB 300 r) : ∃ r, atI (rs.map rD) i = some (rD r) ∧ RB 300 r := by
  obtain ⟨d, h2, h3⟩ := atI_mem (ds := rs.map rD) h0 (by simpa using h1)
  obtain ⟨r, h4, h5⟩ := List.mem_map.mp h3
  exact ⟨r, by rw [h2, h5], hb r h4⟩
def sp_law_3 : DSp := fun ds Q X => ∃ ns : List Int, ds = [.list (ns.map .int)] ∧ ns.length ≤ 63 ∧ Q (.d (.bool true))
theorem p_law_3 {G : Nat → DSp} (g4 : G 4 = sp_law_fraction) (g3 : G 3 = sp_law_measure) (g16 : G 16 = sp_law_right) (g15 : G 15 = sp_is_before) (g8 : G 8 = sp_added) : FnW G 7 1 m_law_3 sp_law_3 := by
  intro ds Q X ⟨ns, e, hn, q⟩
  subst e
  refine ⟨rfl, ?_⟩
  conv => whnf
  rw [show cutD (ns.map PyData.int) none (some 60) = (ns.take 60).map .int from by rw [List.map_take]; exact cut_to _ 60]
  refine row_lc g4 (by simp [wip, dst]) _ _ (fun x k hk => ?_) fun rs hl hb => ?_
  · conv => whnf
    rw [g4]
    refine ⟨_, _, 1, rfl, by decide, by decide, fun r hr => ?_⟩
    conv => whnf
    exact hk r hr
  conv => whnf
  refine ⟨by decide, ?_⟩
  conv => whnf
  refine ⟨by decide, ?_⟩
  conv => whnf
  refine ⟨small_sz (by simp at hl ⊢; omega), ?_⟩
  conv => whnf
  obtain ⟨R, hR⟩ : ∃ R : List Rat, R = rs ++ [0] := ⟨_, rfl⟩
  have e1 : rs.map rD ++ [.tuple [.int 0, .int 1]] = R.map rD := by rw [hR, List.map_append]; rfl
  have hbR : ∀ r ∈ R, RB 300 r := by
    intro r hr
    rw [hR] at hr
    rcases List.mem_append.mp hr with h | h
    · exact hb r h
    · rw [List.mem_singleton.mp h]; exact ⟨by decide, by decide⟩
  have hlR : 0 < R.length ∧ R.length ≤ 64 := by
    have := congrArg List.length hR
    simp at this hl
    omega
  rw [e1]
  have hsz : (R.length : Int) ≤ sizeLine := by have : (100 : Nat) ≤ sizeLine := by decide
                                               omega
  refine ⟨by simpa using hsz, by simp, ?_⟩
  conv => whnf
  refine ⟨rfl, ?_⟩
  refine rng_ind (fun i ρ => ∃ a b c d e : Option DL.R, ρ = [some (.d (.list (ns.map .int))), some (.d (RowD R)), none, a, b, c, d]) _ ?_ ?_ _ ⟨none, none, none, none, none, rfl⟩
  · rintro ρ ⟨a, b, c, d, e, rfl⟩
    conv => whnf
    exact q
  · rintro i ρ hi ⟨a, b, c, d, e, rfl⟩ nx hnx
    simp at hi
    obtain ⟨r, a1, hr⟩ := row_at (rs := R) (i := (i : Int)) (by omega) (by omega) hbR
    ((conv => whnf); repeat' (first | (rw [a1]; conv => whnf) | (refine wIf_tt ?_; conv => whnf) | (refine wIf_ff ?_; conv => whnf) | (refine wIf.mk (fun hif => (have hif := of_decide_eq_true hif; ?_)) (fun hif => (have hif := of_decide_eq_false hif; ?_)) <;> (conv => whnf)) | (refine wIf_not ?_) | (refine ⟨(by decide : (_ : Int) ≠ 0), fun w _ hw => ?_⟩; replace hw := hw (by decide); conv => whnf) | (refine ⟨(by decide : (_ : Int) ≠ 0), div_lit (by decide), fun w _ hw => ?_⟩; replace hw := hw (by decide); conv => whnf) | (refine eq_rD ?_; conv => whnf) | (refine eq_ts ?_; conv => whnf) | (refine ne_ts ?_; conv => whnf) | (refine ne_rD ?_; conv => whnf) | (refine eq_vD ?_; conv => whnf) | (refine ne_vD ?_; conv => whnf) | (refine ⟨isi_ok rfl, ?_⟩; conv => whnf) | (apply wMulS.mk; (first | exact mul_l (by decide) (by decide) | exact mul_r (by decide) (by decide) | exact mul_ok (by l_ints) (by l_ints) (by decide)); conv => whnf) | (refine ⟨⟨by decide, by decide, by decide⟩, ?_⟩; conv => whnf) | (refine ⟨⟨by decide, by decide, by omega⟩, ?_⟩; conv => whnf) | (refine ⟨small_sz (Nat.le_of_ble_eq_true rfl), ?_⟩; conv => whnf) | fail))
    rw [g3]
    refine ⟨_, _, rfl, ?_⟩
    ((conv => whnf); repeat' (first | (rw [a1]; conv => whnf) | (refine wIf_tt ?_; conv => whnf) | (refine wIf_ff ?_; conv => whnf) | (refine wIf.mk (fun hif => (have hif := of_decide_eq_true hif; ?_)) (fun hif => (have hif := of_decide_eq_false hif; ?_)) <;> (conv => whnf)) | (refine wIf_not ?_) | (refine ⟨(by decide : (_ : Int) ≠ 0), fun w _ hw => ?_⟩; replace hw := hw (by decide); conv => whnf) | (refine ⟨(by decide : (_ : Int) ≠ 0), div_lit (by decide), fun w _ hw => ?_⟩; replace hw := hw (by decide); conv => whnf) | (refine eq_rD ?_; conv => whnf) | (refine eq_ts ?_; conv => whnf) | (refine ne_ts ?_; conv => whnf) | (refine ne_rD ?_; conv => whnf) | (refine eq_vD ?_; conv => whnf) | (refine ne_vD ?_; conv => whnf) | (refine ⟨isi_ok rfl, ?_⟩; conv => whnf) | (apply wMulS.mk; (first | exact mul_l (by decide) (by decide) | exact mul_r (by decide) (by decide) | exact mul_ok (by l_ints) (by l_ints) (by decide)); conv => whnf) | (refine ⟨⟨by decide, by decide, by decide⟩, ?_⟩; conv => whnf) | (refine ⟨⟨by decide, by decide, by omega⟩, ?_⟩; conv => whnf) | (refine ⟨small_sz (Nat.le_of_ble_eq_true rfl), ?_⟩; conv => whnf) | fail))
    have hd := r.den_pos
    have b1 : Bd 320 (r.num * 1000 + r.den) := Bd.mono ((hr.1.mul (show Bd 10 1000 by decide)).add hr.2) (by decide)
    have b2 : Bd 320 ((r.den : Int) * 1000) := Bd.mono (hr.2.mul (show Bd 10 1000 by decide)) (by decide)
    have gp := Int.gcd_pos_of_ne_zero_right (r.num * 1000 + r.den) (show (r.den : Int) * 1000 ≠ 0 by omega)
    have gb := gcd_bd (a := r.num * 1000 + r.den) b2 (by omega)
    refine ⟨by omega, div_ok gb (by decide), fun u hu _ => ?_⟩
    ((conv => whnf); repeat' (first | (rw [a1]; conv => whnf) | (refine wIf_tt ?_; conv => whnf) | (refine wIf_ff ?_; conv => whnf) | (refine wIf.mk (fun hif => (have hif := of_decide_eq_true hif; ?_)) (fun hif => (have hif := of_decide_eq_false hif; ?_)) <;> (conv => whnf)) | (refine wIf_not ?_) | (refine ⟨(by decide : (_ : Int) ≠ 0), fun w _ hw => ?_⟩; replace hw := hw (by decide); conv => whnf) | (refine ⟨(by decide : (_ : Int) ≠ 0), div_lit (by decide), fun w _ hw => ?_⟩; replace hw := hw (by decide); conv => whnf) | (refine eq_rD ?_; conv => whnf) | (refine eq_ts ?_; conv => whnf) | (refine ne_ts ?_; conv => whnf) | (refine ne_rD ?_; conv => whnf) | (refine eq_vD ?_; conv => whnf) | (refine ne_vD ?_; conv => whnf) | (refine ⟨isi_ok rfl, ?_⟩; conv => whnf) | (apply wMulS.mk; (first | exact mul_l (by decide) (by decide) | exact mul_r (by decide) (by decide) | exact mul_ok (by l_ints) (by l_ints) (by decide)); conv => whnf) | (refine ⟨⟨by decide, by decide, by decide⟩, ?_⟩; conv => whnf) | (refine ⟨⟨by decide, by decide, by omega⟩, ?_⟩; conv => whnf) | (refine ⟨small_sz (Nat.le_of_ble_eq_true rfl), ?_⟩; conv => whnf) | fail))
    refine ⟨by omega, div_ok gb (by decide), fun v hv _ => ?_⟩
    obtain ⟨e3, e4⟩ := low_num (a := r.num * 1000 + r.den) (b := (r.den : Int) * 1000) (by omega) _ (by rw [if_neg (by omega)])
    obtain ⟨t, ht⟩ : ∃ t, t = Rat.divInt (r.num * 1000 + r.den) ((r.den : Int) * 1000) := ⟨_, rfl⟩
    have hbt : RB 320 t := by rw [ht]; exact RB.divInt b1 b2 (by omega)
    rw [e3, ← ht] at hu
    rw [e4, ← ht] at hv
    subst hu hv
    clear e3 e4 gb gp b1 b2 ht
    ((conv => whnf); repeat' (first | (rw [a1]; conv => whnf) | (refine wIf_tt ?_; conv => whnf) | (refine wIf_ff ?_; conv => whnf) | (refine wIf.mk (fun hif => (have hif := of_decide_eq_true hif; ?_)) (fun hif => (have hif := of_decide_eq_false hif; ?_)) <;> (conv => whnf)) | (refine wIf_not ?_) | (refine ⟨(by decide : (_ : Int) ≠ 0), fun w _ hw => ?_⟩; replace hw := hw (by decide); conv => whnf) | (refine ⟨(by decide : (_ : Int) ≠ 0), div_lit (by decide), fun w _ hw => ?_⟩; replace hw := hw (by decide); conv => whnf) | (refine eq_rD ?_; conv => whnf) | (refine eq_ts ?_; conv => whnf) | (refine ne_ts ?_; conv => whnf) | (refine ne_rD ?_; conv => whnf) | (refine eq_vD ?_; conv => whnf) | (refine ne_vD ?_; conv => whnf) | (refine ⟨isi_ok rfl, ?_⟩; conv => whnf) | (apply wMulS.mk; (first | exact mul_l (by decide) (by decide) | exact mul_r (by decide) (by decide) | exact mul_ok (by l_ints) (by l_ints) (by decide)); conv => whnf) | (refine ⟨⟨by decide, by decide, by decide⟩, ?_⟩; conv => whnf) | (refine ⟨⟨by decide, by decide, by omega⟩, ?_⟩; conv => whnf) | (refine ⟨small_sz (Nat.le_of_ble_eq_true rfl), ?_⟩; conv => whnf) | fail))
    have hlen : ((List.map rD R).length : Int) = R.length := by simp
    refine ⟨by omega, fun j _ hj => ?_⟩
    have hj := hj (by omega)
    have hj1 := Int.emod_nonneg ((i : Int) + 1) (show ((List.map rD R).length : Int) ≠ 0 by omega)
    have hj2 := Int.emod_lt_of_pos ((i : Int) + 1) (show 0 < ((List.map rD R).length : Int) by omega)
    rw [← hj] at hj1 hj2
    obtain ⟨s, a2, hs⟩ := row_at (rs := R) (i := j) (by omega) (by simpa using hj2) hbR
    ((conv => whnf); repeat' (first | (rw [a2]; conv => whnf) | (refine wIf_tt ?_; conv => whnf) | (refine wIf_ff ?_; conv => whnf) | (refine wIf.mk (fun hif => (have hif := of_decide_eq_true hif; ?_)) (fun hif => (have hif := of_decide_eq_false hif; ?_)) <;> (conv => whnf)) | (refine wIf_not ?_) | (refine ⟨(by decide : (_ : Int) ≠ 0), fun w _ hw => ?_⟩; replace hw := hw (by decide); conv => whnf) | (refine ⟨(by decide : (_ : Int) ≠ 0), div_lit (by decide), fun w _ hw => ?_⟩; replace hw := hw (by decide); conv => whnf) | (refine eq_rD ?_; conv => whnf) | (refine eq_ts ?_; conv => whnf) | (refine ne_ts ?_; conv => whnf) | (refine ne_rD ?_; conv => whnf) | (refine eq_vD ?_; conv => whnf) | (refine ne_vD ?_; conv => whnf) | (refine ⟨isi_ok rfl, ?_⟩; conv => whnf) | (apply wMulS.mk; (first | exact mul_l (by decide) (by decide) | exact mul_r (by decide) (by decide) | exact mul_ok (by l_ints) (by l_ints) (by decide)); conv => whnf) | (refine ⟨⟨by decide, by decide, by decide⟩, ?_⟩; conv => whnf) | (refine ⟨⟨by decide, by decide, by omega⟩, ?_⟩; conv => whnf) | (refine ⟨small_sz (Nat.le_of_ble_eq_true rfl), ?_⟩; conv => whnf) | fail))
    refine ⟨rfl, ?_⟩
    have hr' := hr.mono (show 300 ≤ 320 by decide)
    have hs' := hs.mono (show 300 ≤ 320 by decide)
    refine forLoop_ind (fun ds ρ => (∀ d ∈ ds, ∃ s, d = rD s ∧ RB 320 s) ∧ ∃ x y : Option DL.R, ρ = [some (.d (.list (ns.map .int))), some (.d (RowD R)), none, some (.d (.int i)), x, some (.d (rD t)), y]) ?_ ?_ _ _ ⟨fun d hd => ?_, _, _, rfl⟩
    · rintro ρ ⟨_, x, y, rfl⟩
      exact hnx _ ⟨_, _, _, _, none, rfl⟩
    · rintro d ds ρ ⟨hds, x, y, rfl⟩ nx2 hnx2
      obtain ⟨s2, rfl, hs2⟩ := hds d List.mem_cons_self
      have ba := hr'.add hbt
      have bb := hs2.add hbt
      have go : nx2 [some (.d (.list (ns.map .int))), some (.d (RowD R)), none, some (.d (.int i)), x, some (.d (rD t)), some (.d (rD s2))] := hnx2 _ ⟨fun d hd => hds d (List.mem_cons_of_mem _ hd), _, _, rfl⟩
      ((conv => whnf); repeat' (first | (rw [a1]; conv => whnf) | ((rw [g16]; refine ⟨_, _, 320, 320, rfl, by assumption, by assumption, by decide, ?_⟩; conv => whnf)) | ((rw [g15]; refine ⟨_, _, 320, 320, rfl, by assumption, by assumption, by decide, ?_⟩; conv => whnf)) | ((rw [g15]; refine ⟨_, _, _, _, rfl, ba, bb, by decide, ?_⟩; conv => whnf)) | ((rw [g8]; refine ⟨_, _, 320, 320, rfl, by assumption, by assumption, by decide, ?_⟩; conv => whnf)) | (refine wIf_tt ?_; conv => whnf) | (refine wIf_ff ?_; conv => whnf) | (refine wIf.mk (fun hif => (have hif := of_decide_eq_true hif; ?_)) (fun hif => (have hif := of_decide_eq_false hif; ?_)) <;> (conv => whnf)) | (refine wIf_not ?_) | (refine ⟨(by decide : (_ : Int) ≠ 0), fun w _ hw => ?_⟩; replace hw := hw (by decide); conv => whnf) | (refine ⟨(by decide : (_ : Int) ≠ 0), div_lit (by decide), fun w _ hw => ?_⟩; replace hw := hw (by decide); conv => whnf) | (refine eq_rD ?_; conv => whnf) | (refine eq_ts ?_; conv => whnf) | (refine ne_ts ?_; conv => whnf) | (refine ne_rD ?_; conv => whnf) | (refine eq_vD ?_; conv => whnf) | (refine ne_vD ?_; conv => whnf) | (refine ⟨isi_ok rfl, ?_⟩; conv => whnf) | (apply wMulS.mk; (first | exact mul_l (by decide) (by decide) | exact mul_r (by decide) (by decide) | exact mul_ok (by l_ints) (by l_ints) (by decide)); conv => whnf) | (refine ⟨⟨by decide, by decide, by decide⟩, ?_⟩; conv => whnf) | (refine ⟨⟨by decide, by decide, by omega⟩, ?_⟩; conv => whnf) | (refine ⟨small_sz (Nat.le_of_ble_eq_true rfl), ?_⟩; conv => whnf) | fail))
      all_goals first
        | exact go
        | (exfalso; grind)
        | skip
    · simp at hd
      rcases hd with h | h | h | h <;> subst h
      · exact ⟨_, rfl, hr'⟩
      · exact ⟨_, rfl, hs'⟩
      · exact ⟨t, rfl, hbt⟩
      · exact ⟨0, rfl, by decide, by decide⟩
end DL
end
section
namespace DL
def m_law_quotient : Ss := (.cons (.set 2 (.str "none")) (.cons (.try1 (.cons (.set 2 (.call 11 (.cons (.v 0) (.cons (.v 1) .nil)))) .nil) 1 (.cons (.set 2 (.str "refused")) .nil) [1]) (.cons (.ret (.v 2)) .nil)))
end DL
end
section
namespace DL
def m_law_pair : Ss := (.cons (.tup [2, 3] (.v 0)) (.cons (.tup [4, 5] (.v 1)) (.cons (.ifs (.or (.not (.call 5 (.cons (.call 8 (.cons (.v 0) (.cons (.v 1) .nil))) (.cons (.bin .Add (.bin .Mult (.v 2) (.v 5)) (.bin .Mult (.v 4) (.v 3))) (.cons (.bin .Mult (.v 3) (.v 5)) .nil))))) (.not (.call 5 (.cons (.call 9 (.cons (.v 0) (.cons (.v 1) .nil))) (.cons (.bin .Sub (.bin .Mult (.v 2) (.v 5)) (.bin .Mult (.v 4) (.v 3))) (.cons (.bin .Mult (.v 3) (.v 5)) .nil)))))) (.cons (.ret (.bl false)) .nil) .nil) (.cons (.ifs (.or (.not (.call 5 (.cons (.call 10 (.cons (.v 0) (.cons (.v 1) .nil))) (.cons (.bin .Mult (.v 2) (.v 4)) (.cons (.bin .Mult (.v 3) (.v 5)) .nil))))) (.cmp .NotEq (.call 8 (.cons (.call 9 (.cons (.v 0) (.cons (.v 1) .nil))) (.cons (.v 1) .nil))) (.v 0))) (.cons (.ret (.bl false)) .nil) .nil) (.cons (.ifs (.cmp .Eq (.v 4) (.int 0)) (.cons (.ret (.cmp .Eq (.call 12 (.cons (.v 0) (.cons (.v 1) .nil))) (.str "refused"))) .nil) .nil) (.cons (.set 6 (.call 12 (.cons (.v 0) (.cons (.v 1) .nil)))) (.cons (.ret (.and (.cmp .NotEq (.v 6) (.str "refused")) (.and (.call 5 (.cons (.v 6) (.cons (.bin .Mult (.v 2) (.v 5)) (.cons (.bin .Mult (.v 3) (.v 4)) .nil)))) (.cmp .Eq (.call 10 (.cons (.v 6) (.cons (.v 1) .nil))) (.v 0))))) .nil)))))))
end DL
end
section
namespace DL
def m_law_2 : Ss := (.cons (.set 1 (.bin .Add (.lc (.call 4 (.cons (.v 2) (.cons (.int 0) .nil))) (.nm 2) (.ex (.sl (.v 0) .nil (.cons (.int 40) .nil))) .nil [("cell", 2)]) (.lst (.cons (.tup (.cons (.int 0) (.cons (.int 1) .nil))) .nil)))) (.cons (.frz 1) (.cons (.for_ (.nm 3) (.rng1 (.bi .len (.cons (.v 1) .nil))) (.cons (.for_ (.nm 4) (.ex (.lst (.cons (.ix (.v 1) (.v 3)) (.cons (.ix (.v 1) (.bin .Mod (.bin .Add (.v 3) (.int 1)) (.bi .len (.cons (.v 1) .nil)))) (.cons (.tup (.cons (.int 0) (.cons (.int 1) .nil))) .nil))))) (.cons (.ifs (.not (.call 13 (.cons (.ix (.v 1) (.v 3)) (.cons (.v 4) .nil)))) (.cons (.ret (.bl false)) .nil) .nil) .nil)) .nil)) (.cons (.ret (.bl true)) .nil))))
end DL
end
section
set_option maxRecDepth 100000
set_option maxHeartbeats 4000000
set_option exponentiation.threshold 100000
namespace DL
open PySem L2
local macro_rules | `(tactic| l_ints) => `(tactic| first | (assumption) | (apply Bd.neg; l_ints) | (apply Bd.mul <;> l_ints) | (exact bd40 (by omega) (by omega)) | (apply Bd.add <;> l_ints) | (apply Bd.sub <;> l_ints) | (exact bd130 (by omega) (by omega)) | (exact bd210 (by omega) (by omega)) | (exact bd_self _) | fail)
def sp_law_quotient : DSp := fun ds Q X => ∃ (r s : Rat) (m n : Nat), ds = [rD r, rD s] ∧ RB m r ∧ RB n s ∧ m + n ≤ 8990 ∧ (s = 0 → Q (.d (.str "refused"))) ∧ (s ≠ 0 → Q (.d (rD (r / s))))
theorem p_law_quotient {G : Nat → DSp} (g11 : G 11 = sp_divided) : FnW G 3 2 m_law_quotient sp_law_quotient := by
  intro ds Q X ⟨r, s, m, n, e, hr, hs, l, q1, q2⟩
  subst e
  refine ⟨rfl, ?_⟩
  ((conv => whnf); repeat' (first | (refine wIf_tt ?_; conv => whnf) | (refine wIf_ff ?_; conv => whnf) | (refine wIf.mk (fun hif => (have hif := of_decide_eq_true hif; ?_)) (fun hif => (have hif := of_decide_eq_false hif; ?_)) <;> (conv => whnf)) | (refine wIf_not ?_) | (refine ⟨(by decide : (_ : Int) ≠ 0), fun w _ hw => ?_⟩; replace hw := hw (by decide); conv => whnf) | (refine ⟨(by decide : (_ : Int) ≠ 0), div_lit (by decide), fun w _ hw => ?_⟩; replace hw := hw (by decide); conv => whnf) | (refine eq_rD ?_; conv => whnf) | (refine eq_ts ?_; conv => whnf) | (refine ne_ts ?_; conv => whnf) | (refine ne_rD ?_; conv => whnf) | (refine eq_vD ?_; conv => whnf) | (refine ne_vD ?_; conv => whnf) | (refine ⟨isi_ok rfl, ?_⟩; conv => whnf) | (apply wMulS.mk; (first | exact mul_l (by decide) (by decide) | exact mul_r (by decide) (by decide) | exact mul_ok (by l_ints) (by l_ints) (by decide)); conv => whnf) | (refine ⟨⟨by decide, by decide, by decide⟩, ?_⟩; conv => whnf) | (refine ⟨⟨by decide, by decide, by omega⟩, ?_⟩; conv => whnf) | (refine ⟨small_sz (Nat.le_of_ble_eq_true rfl), ?_⟩; conv => whnf) | fail))
  rw [g11]
  refine ⟨r, s, m, n, rfl, hr, hs, l, fun h => ⟨by decide, wIf_tt ?_⟩, fun h => ?_⟩
  · conv => whnf
    exact q1 h
  · conv => whnf
    exact q2 h
def sp_law_pair : DSp := fun ds Q X => ∃ (r s : Rat) (m : Nat), ds = [rD r, rD s] ∧ RB m r ∧ RB m s ∧ m ≤ 1000 ∧ Q (.d (.bool true))
theorem is_add (r s : Rat) : (r + s).num * ((r.den : Int) * s.den) = (r.num * s.den + s.num * r.den) * (r + s).den := by
  have h := rat_add r s
  have h2 := Rat.num_divInt_den (r + s)
  exact (Rat.divInt_eq_divInt_iff (den_ne _) (Int.mul_ne_zero (den_ne r) (den_ne s))).mp (h2.trans h.symm)
theorem is_sub (r s : Rat) : (r - s).num * ((r.den : Int) * s.den) = (r.num * s.den - s.num * r.den) * (r - s).den := by
  have h := rat_sub r s
  have h2 := Rat.num_divInt_den (r - s)
  exact (Rat.divInt_eq_divInt_iff (den_ne _) (Int.mul_ne_zero (den_ne r) (den_ne s))).mp (h2.trans h.symm)
theorem is_mul (r s : Rat) : (r * s).num * ((r.den : Int) * s.den) = (r.num * s.num) * (r * s).den := by
  have h := rat_mul r s
  have h2 := Rat.num_divInt_den (r * s)
  exact (Rat.divInt_eq_divInt_iff (den_ne _) (Int.mul_ne_zero (den_ne r) (den_ne s))).mp (h2.trans h.symm)
theorem is_div (r s : Rat) (hs : s ≠ 0) : (r / s).num * ((r.den : Int) * s.num) = (r.num * s.den) * (r / s).den := by
  have h := rat_div r s
  have h2 := Rat.num_divInt_den (r / s)
  exact (Rat.divInt_eq_divInt_iff (den_ne _) (Int.mul_ne_zero (den_ne r) (num_ne hs))).mp (h2.trans h.symm)
theorem p_law_pair {G : Nat → DSp} (g5 : G 5 = sp_law_is) (g8 : G 8 = sp_added) (g9 : G 9 = sp_taken) (g10 : G 10 = sp_multiplied) (g12 : G 12 = sp_law_quotient) : FnW G 7 2 m_law_pair sp_law_pair := by
  intro ds Q X ⟨r, s, m, e, hr, hs, l, q⟩
  subst e
  refine ⟨rfl, ?_⟩
  have hr := hr.mono l
  have hs := hs.mono l
  obtain ⟨hr1, hr2⟩ := id hr
  obtain ⟨hs1, hs2⟩ := id hs
  have a1 := hr.add hs
  have a2 := hr.sub hs
  have a3 := hr.mul hs
  ((conv => whnf); repeat' (first | (rw [g8]; refine ⟨_, _, _, _, rfl, hr, hs, by decide, ?_⟩; conv => whnf) | (rw [g9]; refine ⟨_, _, _, _, rfl, hr, hs, by decide, ?_⟩; conv => whnf) | (rw [g10]; refine ⟨_, _, _, _, rfl, hr, hs, by decide, ?_⟩; conv => whnf) | (rw [g8]; refine ⟨_, _, _, _, rfl, a2, hs, by decide, ?_⟩; conv => whnf) | (rw [g5]; refine ⟨_, _, _, _, _, rfl, by assumption, Bd.mono (n := 5000) (by l_ints) (by decide), Bd.mono (n := 5000) (by l_ints) (by decide), by decide, by first | exact is_add r s | exact is_sub r s | exact is_mul r s, ?_⟩; conv => whnf) | (refine wIf_tt ?_; conv => whnf) | (refine wIf_ff ?_; conv => whnf) | (refine wIf.mk (fun hif => (have hif := of_decide_eq_true hif; ?_)) (fun hif => (have hif := of_decide_eq_false hif; ?_)) <;> (conv => whnf)) | (refine wIf_not ?_) | (refine ⟨(by decide : (_ : Int) ≠ 0), fun w _ hw => ?_⟩; replace hw := hw (by decide); conv => whnf) | (refine ⟨(by decide : (_ : Int) ≠ 0), div_lit (by decide), fun w _ hw => ?_⟩; replace hw := hw (by decide); conv => whnf) | (refine eq_rD ?_; conv => whnf) | (refine eq_ts ?_; conv => whnf) | (refine ne_ts ?_; conv => whnf) | (refine ne_rD ?_; conv => whnf) | (refine eq_vD ?_; conv => whnf) | (refine ne_vD ?_; conv => whnf) | (refine ⟨isi_ok rfl, ?_⟩; conv => whnf) | (apply wMulS.mk; (first | exact mul_l (by decide) (by decide) | exact mul_r (by decide) (by decide) | exact mul_ok (by l_ints) (by l_ints) (by decide)); conv => whnf) | (refine ⟨⟨by decide, by decide, by decide⟩, ?_⟩; conv => whnf) | (refine ⟨⟨by decide, by decide, by omega⟩, ?_⟩; conv => whnf) | (refine ⟨small_sz (Nat.le_of_ble_eq_true rfl), ?_⟩; conv => whnf) | fail))
  · rename_i h
    have hz : s = 0 := Rat.num_eq_zero.mp (by assumption)
    rw [g12]
    refine ⟨r, s, 1000, 1000, rfl, hr, hs, by decide, fun _ => ?_, fun z => absurd hz z⟩
    conv => whnf
    exact q
  · have hz : s ≠ 0 := fun z => by
      have h : ¬ s.num = 0 := by assumption
      exact h (by rw [z]; rfl)
    rw [g12]
    refine ⟨r, s, 1000, 1000, rfl, hr, hs, by decide, fun z => absurd z hz, fun _ => ?_⟩
    have a4 := hr.div hs hz
    ((conv => whnf); repeat' (first | (rw [g5]; refine ⟨_, _, _, _, _, rfl, by assumption, Bd.mono (n := 5000) (by l_ints) (by decide), Bd.mono (n := 5000) (by l_ints) (by decide), by decide, is_div r s hz, ?_⟩; conv => whnf) | (rw [g10]; refine ⟨_, _, _, _, rfl, a4, hs, by decide, ?_⟩; conv => whnf) | (refine wIf_tt ?_; conv => whnf) | (refine wIf_ff ?_; conv => whnf) | (refine wIf.mk (fun hif => (have hif := of_decide_eq_true hif; ?_)) (fun hif => (have hif := of_decide_eq_false hif; ?_)) <;> (conv => whnf)) | (refine wIf_not ?_) | (refine ⟨(by decide : (_ : Int) ≠ 0), fun w _ hw => ?_⟩; replace hw := hw (by decide); conv => whnf) | (refine ⟨(by decide : (_ : Int) ≠ 0), div_lit (by decide), fun w _ hw => ?_⟩; replace hw := hw (by decide); conv => whnf) | (refine eq_rD ?_; conv => whnf) | (refine eq_ts ?_; conv => whnf) | (refine ne_ts ?_; conv => whnf) | (refine ne_rD ?_; conv => whnf) | (refine eq_vD ?_; conv => whnf) | (refine ne_vD ?_; conv => whnf) | (refine ⟨isi_ok rfl, ?_⟩; conv => whnf) | (apply wMulS.mk; (first | exact mul_l (by decide) (by decide) | exact mul_r (by decide) (by decide) | exact mul_ok (by l_ints) (by l_ints) (by decide)); conv => whnf) | (refine ⟨⟨by decide, by decide, by decide⟩, ?_⟩; conv => whnf) | (refine ⟨⟨by decide, by decide, by omega⟩, ?_⟩; conv => whnf) | (refine ⟨small_sz (Nat.le_of_ble_eq_true rfl), ?_⟩; conv => whnf) | fail))
    rw [decide_eq_true (show r / s * s = r by grind)]
    exact q
  · exact absurd (show r - s + s = r by grind) (by assumption)
def sp_law_2 : DSp := fun ds Q X => ∃ ns : List Int, ds = [.list (ns.map .int)] ∧ ns.length ≤ 63 ∧ Q (.d (.bool true))
theorem row_all {rs : List Rat} (hb : ∀ r ∈ rs, RB 300 r) (e : List D) : rs.map rD ++ [.tuple [.int 0, .int 1]] = (rs ++ [0]).map rD ∧ ∀ r ∈ rs ++ [(0 : Rat)], RB 300 r := by
  refine ⟨by rw [List.map_append]; rfl, fun r hr => ?_⟩
  rcases List.mem_append.mp hr with h | h
  · exact hb r h
  · rw [List.mem_singleton.mp h]; exact ⟨by decide, by decide⟩
theorem p_law_2 {G : Nat → DSp} (g4 : G 4 = sp_law_fraction) (g13 : G 13 = sp_law_pair) : FnW G 5 1 m_law_2 sp_law_2 := by
  intro ds Q X ⟨ns, e, hn, q⟩
  subst e
  refine ⟨rfl, ?_⟩
  conv => whnf
  rw [show cutD (ns.map PyData.int) none (some 40) = (ns.take 40).map .int from by rw [List.map_take]; exact cut_to _ 40]
  refine row_lc g4 (by simp [wip, dst]) _ _ (fun x k hk => ?_) fun rs hl hb => ?_
  · conv => whnf
    rw [g4]
    refine ⟨_, _, 1, rfl, by decide, by decide, fun r hr => ?_⟩
    conv => whnf
    exact hk r hr
  obtain ⟨e1, hbR⟩ := row_all hb []
  obtain ⟨R, hR⟩ : ∃ R : List Rat, R = rs ++ [0] := ⟨_, rfl⟩
  rw [← hR] at e1 hbR
  have hlR : 0 < R.length ∧ R.length ≤ 64 := by
    have := congrArg List.length hR
    simp at this hl
    omega
  ((conv => whnf); repeat' (first | (refine wIf_tt ?_; conv => whnf) | (refine wIf_ff ?_; conv => whnf) | (refine wIf.mk (fun hif => (have hif := of_decide_eq_true hif; ?_)) (fun hif => (have hif := of_decide_eq_false hif; ?_)) <;> (conv => whnf)) | (refine wIf_not ?_) | (refine ⟨(by decide : (_ : Int) ≠ 0), fun w _ hw => ?_⟩; replace hw := hw (by decide); conv => whnf) | (refine ⟨(by decide : (_ : Int) ≠ 0), div_lit (by decide), fun w _ hw => ?_⟩; replace hw := hw (by decide); conv => whnf) | (refine eq_rD ?_; conv => whnf) | (refine eq_ts ?_; conv => whnf) | (refine ne_ts ?_; conv => whnf) | (refine ne_rD ?_; conv => whnf) | (refine eq_vD ?_; conv => whnf) | (refine ne_vD ?_; conv => whnf) | (refine ⟨isi_ok rfl, ?_⟩; conv => whnf) | (apply wMulS.mk; (first | exact mul_l (by decide) (by decide) | exact mul_r (by decide) (by decide) | exact mul_ok (by l_ints) (by l_ints) (by decide)); conv => whnf) | (refine ⟨⟨by decide, by decide, by decide⟩, ?_⟩; conv => whnf) | (refine ⟨⟨by decide, by decide, by omega⟩, ?_⟩; conv => whnf) | (refine ⟨small_sz (Nat.le_of_ble_eq_true rfl), ?_⟩; conv => whnf) | fail))
  refine ⟨small_sz (by simp at hl ⊢; omega), ?_⟩
  conv => whnf
  rw [e1]
  have hsz : (R.length : Int) ≤ sizeLine := by have : (100 : Nat) ≤ sizeLine := by decide
                                               omega
  refine ⟨by simpa using hsz, by simp, ?_⟩
  conv => whnf
  refine ⟨rfl, ?_⟩
  refine rng_ind (fun i ρ => ∃ a b : Option DL.R, ρ = [some (.d (.list (ns.map .int))), some (.d (RowD R)), none, a, b]) _ ?_ ?_ _ ⟨none, none, rfl⟩
  · rintro ρ ⟨a, b, rfl⟩
    conv => whnf
    exact q
  · rintro i ρ hi ⟨a, b, rfl⟩ nx hnx
    simp at hi
    obtain ⟨r, a1, hr⟩ := row_at (rs := R) (i := (i : Int)) (by omega) (by omega) hbR
    ((conv => whnf); repeat' (first | (rw [a1]; conv => whnf) | (refine wIf_tt ?_; conv => whnf) | (refine wIf_ff ?_; conv => whnf) | (refine wIf.mk (fun hif => (have hif := of_decide_eq_true hif; ?_)) (fun hif => (have hif := of_decide_eq_false hif; ?_)) <;> (conv => whnf)) | (refine wIf_not ?_) | (refine ⟨(by decide : (_ : Int) ≠ 0), fun w _ hw => ?_⟩; replace hw := hw (by decide); conv => whnf) | (refine ⟨(by decide : (_ : Int) ≠ 0), div_lit (by decide), fun w _ hw => ?_⟩; replace hw := hw (by decide); conv => whnf) | (refine eq_rD ?_; conv => whnf) | (refine eq_ts ?_; conv => whnf) | (refine ne_ts ?_; conv => whnf) | (refine ne_rD ?_; conv => whnf) | (refine eq_vD ?_; conv => whnf) | (refine ne_vD ?_; conv => whnf) | (refine ⟨isi_ok rfl, ?_⟩; conv => whnf) | (apply wMulS.mk; (first | exact mul_l (by decide) (by decide) | exact mul_r (by decide) (by decide) | exact mul_ok (by l_ints) (by l_ints) (by decide)); conv => whnf) | (refine ⟨⟨by decide, by decide, by decide⟩, ?_⟩; conv => whnf) | (refine ⟨⟨by decide, by decide, by omega⟩, ?_⟩; conv => whnf) | (refine ⟨small_sz (Nat.le_of_ble_eq_true rfl), ?_⟩; conv => whnf) | fail))
    have hlen : ((List.map rD R).length : Int) = R.length := by simp
    refine ⟨by omega, fun j _ hj => ?_⟩
    have hj := hj (by omega)
    have hj1 := Int.emod_nonneg ((i : Int) + 1) (show ((List.map rD R).length : Int) ≠ 0 by omega)
    have hj2 := Int.emod_lt_of_pos ((i : Int) + 1) (show 0 < ((List.map rD R).length : Int) by omega)
    rw [← hj] at hj1 hj2
    obtain ⟨s, a2, hs⟩ := row_at (rs := R) (i := j) (by omega) (by simpa using hj2) hbR
    ((conv => whnf); repeat' (first | (rw [a2]; conv => whnf) | (refine wIf_tt ?_; conv => whnf) | (refine wIf_ff ?_; conv => whnf) | (refine wIf.mk (fun hif => (have hif := of_decide_eq_true hif; ?_)) (fun hif => (have hif := of_decide_eq_false hif; ?_)) <;> (conv => whnf)) | (refine wIf_not ?_) | (refine ⟨(by decide : (_ : Int) ≠ 0), fun w _ hw => ?_⟩; replace hw := hw (by decide); conv => whnf) | (refine ⟨(by decide : (_ : Int) ≠ 0), div_lit (by decide), fun w _ hw => ?_⟩; replace hw := hw (by decide); conv => whnf) | (refine eq_rD ?_; conv => whnf) | (refine eq_ts ?_; conv => whnf) | (refine ne_ts ?_; conv => whnf) | (refine ne_rD ?_; conv => whnf) | (refine eq_vD ?_; conv => whnf) | (refine ne_vD ?_; conv => whnf) | (refine ⟨isi_ok rfl, ?_⟩; conv => whnf) | (apply wMulS.mk; (first | exact mul_l (by decide) (by decide) | exact mul_r (by decide) (by decide) | exact mul_ok (by l_ints) (by l_ints) (by decide)); conv => whnf) | (refine ⟨⟨by decide, by decide, by decide⟩, ?_⟩; conv => whnf) | (refine ⟨⟨by decide, by decide, by omega⟩, ?_⟩; conv => whnf) | (refine ⟨small_sz (Nat.le_of_ble_eq_true rfl), ?_⟩; conv => whnf) | fail))
    refine ⟨rfl, ?_⟩
    refine forLoop_ind (fun ds ρ => (∀ d ∈ ds, ∃ s, d = rD s ∧ RB 300 s) ∧ ∃ y : Option DL.R, ρ = [some (.d (.list (ns.map .int))), some (.d (RowD R)), none, some (.d (.int i)), y]) ?_ ?_ _ _ ⟨fun d hd => ?_, _, rfl⟩
    · rintro ρ ⟨_, y, rfl⟩
      exact hnx _ ⟨_, _, rfl⟩
    · rintro d ds ρ ⟨hds, y, rfl⟩ nx2 hnx2
      obtain ⟨s2, rfl, hs2⟩ := hds d List.mem_cons_self
      have go : nx2 [some (.d (.list (ns.map .int))), some (.d (RowD R)), none, some (.d (.int i)), some (.d (rD s2))] := hnx2 _ ⟨fun d hd => hds d (List.mem_cons_of_mem _ hd), _, rfl⟩
      ((conv => whnf); repeat' (first | (rw [a1]; conv => whnf) | (rw [g13]; refine ⟨_, _, 300, rfl, hr, hs2, by decide, ?_⟩; conv => whnf) | (refine wIf_tt ?_; conv => whnf) | (refine wIf_ff ?_; conv => whnf) | (refine wIf.mk (fun hif => (have hif := of_decide_eq_true hif; ?_)) (fun hif => (have hif := of_decide_eq_false hif; ?_)) <;> (conv => whnf)) | (refine wIf_not ?_) | (refine ⟨(by decide : (_ : Int) ≠ 0), fun w _ hw => ?_⟩; replace hw := hw (by decide); conv => whnf) | (refine ⟨(by decide : (_ : Int) ≠ 0), div_lit (by decide), fun w _ hw => ?_⟩; replace hw := hw (by decide); conv => whnf) | (refine eq_rD ?_; conv => whnf) | (refine eq_ts ?_; conv => whnf) | (refine ne_ts ?_; conv => whnf) | (refine ne_rD ?_; conv => whnf) | (refine eq_vD ?_; conv => whnf) | (refine ne_vD ?_; conv => whnf) | (refine ⟨isi_ok rfl, ?_⟩; conv => whnf) | (apply wMulS.mk; (first | exact mul_l (by decide) (by decide) | exact mul_r (by decide) (by decide) | exact mul_ok (by l_ints) (by l_ints) (by decide)); conv => whnf) | (refine ⟨⟨by decide, by decide, by decide⟩, ?_⟩; conv => whnf) | (refine ⟨⟨by decide, by decide, by omega⟩, ?_⟩; conv => whnf) | (refine ⟨small_sz (Nat.le_of_ble_eq_true rfl), ?_⟩; conv => whnf) | fail))
      exact go
    · simp at hd
      rcases hd with h | h | h <;> subst h
      · exact ⟨_, rfl, hr⟩
      · exact ⟨_, rfl, hs⟩
      · exact ⟨0, rfl, by decide, by decide⟩
end DL
end
section
namespace DL
def m_law_place : Ss := (.cons (.ifs (.or (.not (.isi (.v 0) "tuple")) (.cmp .NotEq (.bi .len (.cons (.v 0) .nil)) (.int 3))) (.cons (.ret (.bl false)) .nil) .nil) (.cons (.for_ (.nm 3) (.ex (.v 0)) (.cons (.ifs (.or (.not (.isi (.v 3) "int")) (.isi (.v 3) "bool")) (.cons (.ret (.bl false)) .nil) .nil) .nil)) (.cons (.ifs (.or (.cmp .Lt (.ix (.v 0) (.int 2)) (.int 1)) (.cmp .NotEq (.call 3 (.cons (.call 3 (.cons (.ix (.v 0) (.int 0)) (.cons (.ix (.v 0) (.int 1)) .nil))) (.cons (.ix (.v 0) (.int 2)) .nil))) (.int 1))) (.cons (.ret (.bl false)) .nil) .nil) (.cons (.ret (.and (.cmp .Eq (.bin .Mult (.ix (.v 0) (.int 0)) (.ix (.v 1) (.int 1))) (.bin .Mult (.ix (.v 1) (.int 0)) (.ix (.v 0) (.int 2)))) (.cmp .Eq (.bin .Mult (.ix (.v 0) (.int 1)) (.ix (.v 2) (.int 1))) (.bin .Mult (.ix (.v 2) (.int 0)) (.ix (.v 0) (.int 2)))))) .nil))))
end DL
end
section
namespace DL
def m_law_sum : Ss := (.cons (.ret (.tup (.cons (.bin .Add (.bin .Mult (.ix (.v 0) (.int 0)) (.ix (.v 1) (.int 1))) (.bin .Mult (.bin .Mult (.v 2) (.ix (.v 1) (.int 0))) (.ix (.v 0) (.int 1)))) (.cons (.bin .Mult (.ix (.v 0) (.int 1)) (.ix (.v 1) (.int 1))) .nil)))) .nil)
end DL
end
section
namespace DL
def m_law_times : Ss := (.cons (.ret (.tup (.cons (.bin .Mult (.ix (.v 0) (.int 0)) (.ix (.v 1) (.int 0))) (.cons (.bin .Mult (.ix (.v 0) (.int 1)) (.ix (.v 1) (.int 1))) .nil)))) .nil)
end DL
end
section
namespace DL
def m_law_right_2 : Ss := (.cons (.set 4 (.call 20 (.cons (.ix (.v 0) (.int 0)) (.cons (.ix (.v 0) (.int 1)) .nil)))) (.cons (.set 5 (.call 20 (.cons (.ix (.v 1) (.int 0)) (.cons (.ix (.v 1) (.int 1)) .nil)))) (.cons (.ifs (.or (.not (.call 27 (.cons (.v 4) (.cons (.ix (.v 0) (.int 0)) (.cons (.ix (.v 0) (.int 1)) .nil))))) (.not (.call 5 (.cons (.call 21 (.cons (.v 4) .nil)) (.cons (.ix (.ix (.v 0) (.int 0)) (.int 0)) (.cons (.ix (.ix (.v 0) (.int 0)) (.int 1)) .nil)))))) (.cons (.ret (.bl false)) .nil) .nil) (.cons (.ifs (.not (.call 5 (.cons (.call 22 (.cons (.v 4) .nil)) (.cons (.ix (.ix (.v 0) (.int 1)) (.int 0)) (.cons (.ix (.ix (.v 0) (.int 1)) (.int 1)) .nil))))) (.cons (.ret (.bl false)) .nil) .nil) (.cons (.ifs (.not (.call 27 (.cons (.call 23 (.cons (.v 4) (.cons (.v 5) .nil))) (.cons (.call 28 (.cons (.ix (.v 0) (.int 0)) (.cons (.ix (.v 1) (.int 0)) (.cons (.int 1) .nil)))) (.cons (.call 28 (.cons (.ix (.v 0) (.int 1)) (.cons (.ix (.v 1) (.int 1)) (.cons (.int 1) .nil)))) .nil))))) (.cons (.ret (.bl false)) .nil) .nil) (.cons (.ifs (.not (.call 27 (.cons (.call 24 (.cons (.v 4) (.cons (.v 5) .nil))) (.cons (.call 28 (.cons (.ix (.v 0) (.int 0)) (.cons (.ix (.v 1) (.int 0)) (.cons (.neg (.int 1)) .nil)))) (.cons (.call 28 (.cons (.ix (.v 0) (.int 1)) (.cons (.ix (.v 1) (.int 1)) (.cons (.neg (.int 1)) .nil)))) .nil))))) (.cons (.ret (.bl false)) .nil) .nil) (.cons (.ifs (.not (.call 27 (.cons (.call 25 (.cons (.v 4) (.cons (.v 2) .nil))) (.cons (.call 29 (.cons (.ix (.v 0) (.int 0)) (.cons (.v 2) .nil))) (.cons (.call 29 (.cons (.ix (.v 0) (.int 1)) (.cons (.v 2) .nil))) .nil))))) (.cons (.ret (.bl false)) .nil) .nil) (.cons (.set 6 (.call 28 (.cons (.call 29 (.cons (.ix (.v 0) (.int 0)) (.cons (.tup (.cons (.ix (.v 3) (.int 0)) (.cons (.int 1) .nil))) .nil))) (.cons (.call 29 (.cons (.ix (.v 0) (.int 1)) (.cons (.tup (.cons (.ix (.v 3) (.int 1)) (.cons (.int 1) .nil))) .nil))) (.cons (.int 1) .nil))))) (.cons (.ret (.call 5 (.cons (.call 26 (.cons (.v 3) (.cons (.v 4) .nil))) (.cons (.ix (.v 6) (.int 0)) (.cons (.ix (.v 6) (.int 1)) .nil))))) .nil)))))))))
end DL
end
section
namespace DL
def m_law_4 : Ss := (.cons (.set 1 (.bin .Add (.lc (.call 4 (.cons (.v 2) (.cons (.int 0) .nil))) (.nm 2) (.ex (.sl (.v 0) .nil (.cons (.int 80) .nil))) .nil [("cell", 2)]) (.lst (.cons (.tup (.cons (.int 0) (.cons (.int 1) .nil))) (.cons (.tup (.cons (.int 0) (.cons (.int 1) .nil))) (.cons (.tup (.cons (.int 1) (.cons (.int 2) .nil))) .nil)))))) (.cons (.frz 1) (.cons (.for_ (.nm 3) (.rng1 (.bin .Sub (.bi .len (.cons (.v 1) .nil)) (.int 2))) (.cons (.set 4 (.tup (.cons (.ix (.v 1) (.v 3)) (.cons (.ix (.v 1) (.bin .Add (.v 3) (.int 1))) .nil)))) (.cons (.set 5 (.tup (.cons (.ix (.v 1) (.bin .Add (.v 3) (.int 1))) (.cons (.ix (.v 1) (.bin .Add (.v 3) (.int 2))) .nil)))) (.cons (.set 6 (.bin .FloorDiv (.call 2 (.cons (.ix (.ix (.v 1) (.v 3)) (.int 0)) (.cons (.v 3) .nil))) (.int 7))) (.cons (.set 7 (.tup (.cons (.bin .Sub (.bin .Mod (.v 6) (.int 7)) (.int 3)) (.cons (.bin .Add (.int 1) (.bin .Mod (.bin .FloorDiv (.v 6) (.int 7)) (.ix (.lst (.cons (.int 3) (.cons (.bin .Pow (.int 10) (.int 20)) .nil))) (.bin .Mod (.bin .FloorDiv (.v 6) (.int 3)) (.int 2))))) .nil)))) (.cons (.ifs (.not (.call 30 (.cons (.v 4) (.cons (.v 5) (.cons (.ix (.v 1) (.bin .Add (.v 3) (.int 2))) (.cons (.v 7) .nil)))))) (.cons (.ret (.bl false)) .nil) .nil) (.cons (.ifs (.not (.call 30 (.cons (.v 5) (.cons (.v 4) (.cons (.ix (.v 1) (.v 3)) (.cons (.tup (.cons (.ix (.v 7) (.int 1)) (.cons (.ix (.v 7) (.int 0)) .nil))) .nil)))))) (.cons (.ret (.bl false)) .nil) .nil) .nil))))))) (.cons (.ret (.bl true)) .nil))))
end DL
end
section
set_option maxRecDepth 100000
set_option maxHeartbeats 4000000
set_option exponentiation.threshold 100000
namespace DL
open PySem L2
local macro_rules | `(tactic| l_ints) => `(tactic| first | (assumption) | (apply Bd.neg; l_ints) | (apply Bd.mul <;> l_ints) | (exact bd40 (by omega) (by omega)) | (apply Bd.add <;> l_ints) | (apply Bd.sub <;> l_ints) | (exact bd130 (by omega) (by omega)) | (exact bd210 (by omega) (by omega)) | (exact bd_self _) | fail)
def sp_law_place : DSp := fun ds Q X => ∃ (e n : Rat) (p q : Vec) (k m : Nat), ds = [PD e n, vD p, vD q] ∧ PB k e n ∧ Bd m p.1 ∧ Bd m p.2 ∧ Bd m q.1 ∧ Bd m q.2 ∧ k + m ≤ 999990 ∧ e.num * p.2 = p.1 * e.den ∧ n.num * q.2 = q.1 * n.den ∧ Q (.d (.bool true))
theorem place_ok {e n : Rat} {a b : Int} (h : e.num * b = a * e.den) : (plc e n).1 * b = a * (plc e n).2.2 := by
  obtain ⟨b1, b2, b3⟩ := plc_norm e n
  refine (Int.mul_eq_mul_right_iff (den_ne e)).mp ?_
  grind
theorem place_ok2 {e n : Rat} {a b : Int} (h : n.num * b = a * n.den) : (plc e n).2.1 * b = a * (plc e n).2.2 := by
  obtain ⟨b1, b2, b3⟩ := plc_norm e n
  refine (Int.mul_eq_mul_right_iff (den_ne n)).mp ?_
  grind
theorem p_law_place {G : Nat → DSp} (g3 : G 3 = sp_law_measure) : FnW G 4 3 m_law_place sp_law_place := by
  intro ds Q X ⟨e, n, p, p', k, m, e0, h, a1, a2, a3, a4, l, h1, h2, q⟩
  subst e0
  refine ⟨rfl, ?_⟩
  have hp := plc_pos e n
  have h1 := place_ok (n := n) h1
  have h2 := place_ok2 (e := e) h2
  ((conv => whnf); repeat' (first | (refine wIf_tt ?_; conv => whnf) | (refine wIf_ff ?_; conv => whnf) | (refine wIf.mk (fun hif => (have hif := of_decide_eq_true hif; ?_)) (fun hif => (have hif := of_decide_eq_false hif; ?_)) <;> (conv => whnf)) | (refine wIf_not ?_) | (refine ⟨(by decide : (_ : Int) ≠ 0), fun w _ hw => ?_⟩; replace hw := hw (by decide); conv => whnf) | (refine ⟨(by decide : (_ : Int) ≠ 0), div_lit (by decide), fun w _ hw => ?_⟩; replace hw := hw (by decide); conv => whnf) | (refine eq_rD ?_; conv => whnf) | (refine eq_ts ?_; conv => whnf) | (refine ne_ts ?_; conv => whnf) | (refine ne_rD ?_; conv => whnf) | (refine eq_vD ?_; conv => whnf) | (refine ne_vD ?_; conv => whnf) | (refine ⟨isi_ok rfl, ?_⟩; conv => whnf) | (apply wMulS.mk; (first | exact mul_l (by decide) (by decide) | exact mul_r (by decide) (by decide) | exact mul_ok (by l_ints) (by l_ints) (by decide)); conv => whnf) | (refine ⟨⟨by decide, by decide, by decide⟩, ?_⟩; conv => whnf) | (refine ⟨⟨by decide, by decide, by omega⟩, ?_⟩; conv => whnf) | (refine ⟨small_sz (Nat.le_of_ble_eq_true rfl), ?_⟩; conv => whnf) | fail))
  refine ⟨by decide, ?_⟩
  refine forLoop_ind (fun ds ρ => (∀ d ∈ ds, ∃ i : Int, d = .int i) ∧ ∃ x : Option R, ρ = [some (.d (PD e n)), some (.d (vD p)), some (.d (vD p')), x]) ?_ ?_ _ _ ⟨by simp, _, rfl⟩
  · rintro ρ ⟨_, x, rfl⟩
    ((conv => whnf); repeat' (first | (refine gC g3 ⟨_, _, rfl, ?_⟩; conv => whnf) | (refine wIf_tt ?_; conv => whnf) | (refine wIf_ff ?_; conv => whnf) | (refine wIf.mk (fun hif => (have hif := of_decide_eq_true hif; ?_)) (fun hif => (have hif := of_decide_eq_false hif; ?_)) <;> (conv => whnf)) | (refine wIf_not ?_) | (refine ⟨(by decide : (_ : Int) ≠ 0), fun w _ hw => ?_⟩; replace hw := hw (by decide); conv => whnf) | (refine ⟨(by decide : (_ : Int) ≠ 0), div_lit (by decide), fun w _ hw => ?_⟩; replace hw := hw (by decide); conv => whnf) | (refine eq_rD ?_; conv => whnf) | (refine eq_ts ?_; conv => whnf) | (refine ne_ts ?_; conv => whnf) | (refine ne_rD ?_; conv => whnf) | (refine eq_vD ?_; conv => whnf) | (refine ne_vD ?_; conv => whnf) | (refine ⟨isi_ok rfl, ?_⟩; conv => whnf) | (apply wMulS.mk; (first | exact mul_l (by decide) (by decide) | exact mul_r (by decide) (by decide) | exact mul_ok (by l_ints) (by l_ints) (by decide)); conv => whnf) | (refine ⟨⟨by decide, by decide, by decide⟩, ?_⟩; conv => whnf) | (refine ⟨⟨by decide, by decide, by omega⟩, ?_⟩; conv => whnf) | (refine ⟨small_sz (Nat.le_of_ble_eq_true rfl), ?_⟩; conv => whnf) | fail))
    · omega
    · refine ⟨mul_ok h.1 a2 (by omega), ?_⟩
      conv => whnf
      refine ⟨mul_ok a1 h.2.2 (by omega), ?_⟩
      conv => whnf
      rw [h1, decide_eq_true rfl]
      refine wIf_tt ?_
      conv => whnf
      refine ⟨mul_ok h.2.1 a4 (by omega), ?_⟩
      conv => whnf
      refine ⟨mul_ok a3 h.2.2 (by omega), ?_⟩
      conv => whnf
      rw [h2, decide_eq_true rfl]
      exact q
    · exact absurd (show ((Int.gcd (Int.gcd (plc e n).1 (plc e n).2.1 : Nat) (plc e n).2.2 : Nat) : Int) = 1 by have := (plc_norm e n).1.one; unfold gcd3 at this; rw [this]; rfl) (by assumption)
  · rintro d ds ρ ⟨h, x, rfl⟩ nx hnx
    obtain ⟨i, rfl⟩ := h d List.mem_cons_self
    ((conv => whnf); repeat' (first | (refine wIf_tt ?_; conv => whnf) | (refine wIf_ff ?_; conv => whnf) | (refine wIf.mk (fun hif => (have hif := of_decide_eq_true hif; ?_)) (fun hif => (have hif := of_decide_eq_false hif; ?_)) <;> (conv => whnf)) | (refine wIf_not ?_) | (refine ⟨(by decide : (_ : Int) ≠ 0), fun w _ hw => ?_⟩; replace hw := hw (by decide); conv => whnf) | (refine ⟨(by decide : (_ : Int) ≠ 0), div_lit (by decide), fun w _ hw => ?_⟩; replace hw := hw (by decide); conv => whnf) | (refine eq_rD ?_; conv => whnf) | (refine eq_ts ?_; conv => whnf) | (refine ne_ts ?_; conv => whnf) | (refine ne_rD ?_; conv => whnf) | (refine eq_vD ?_; conv => whnf) | (refine ne_vD ?_; conv => whnf) | (refine ⟨isi_ok rfl, ?_⟩; conv => whnf) | (apply wMulS.mk; (first | exact mul_l (by decide) (by decide) | exact mul_r (by decide) (by decide) | exact mul_ok (by l_ints) (by l_ints) (by decide)); conv => whnf) | (refine ⟨⟨by decide, by decide, by decide⟩, ?_⟩; conv => whnf) | (refine ⟨⟨by decide, by decide, by omega⟩, ?_⟩; conv => whnf) | (refine ⟨small_sz (Nat.le_of_ble_eq_true rfl), ?_⟩; conv => whnf) | fail))
    exact hnx _ ⟨fun d hd => h d (List.mem_cons_of_mem _ hd), _, rfl⟩
def sp_law_sum : DSp := fun ds Q X => ∃ (p q : Vec) (s : Int) (m : Nat), ds = [vD p, vD q, .int s] ∧ Bd m p.1 ∧ Bd m p.2 ∧ Bd m q.1 ∧ Bd m q.2 ∧ Bd 1 s ∧ m ≤ 400000 ∧ Q (.d (vD (p.1 * q.2 + s * q.1 * p.2, p.2 * q.2)))
theorem p_law_sum {G : Nat → DSp} : FnW G 3 3 m_law_sum sp_law_sum := by
  intro ds Q X ⟨p, p', s, m, e0, a1, a2, a3, a4, a5, l, q⟩
  subst e0
  refine ⟨rfl, ?_⟩
  conv => whnf
  refine ⟨mul_ok a1 a4 (by omega), ?_⟩
  conv => whnf
  refine ⟨mul_ok a5 a3 (by omega), ?_⟩
  conv => whnf
  refine ⟨mul_ok (a5.mul a3) a2 (by omega), ?_⟩
  conv => whnf
  refine ⟨mul_ok a2 a4 (by omega), ?_⟩
  ((conv => whnf); repeat' (first | (refine wIf_tt ?_; conv => whnf) | (refine wIf_ff ?_; conv => whnf) | (refine wIf.mk (fun hif => (have hif := of_decide_eq_true hif; ?_)) (fun hif => (have hif := of_decide_eq_false hif; ?_)) <;> (conv => whnf)) | (refine wIf_not ?_) | (refine ⟨(by decide : (_ : Int) ≠ 0), fun w _ hw => ?_⟩; replace hw := hw (by decide); conv => whnf) | (refine ⟨(by decide : (_ : Int) ≠ 0), div_lit (by decide), fun w _ hw => ?_⟩; replace hw := hw (by decide); conv => whnf) | (refine eq_rD ?_; conv => whnf) | (refine eq_ts ?_; conv => whnf) | (refine ne_ts ?_; conv => whnf) | (refine ne_rD ?_; conv => whnf) | (refine eq_vD ?_; conv => whnf) | (refine ne_vD ?_; conv => whnf) | (refine ⟨isi_ok rfl, ?_⟩; conv => whnf) | (apply wMulS.mk; (first | exact mul_l (by decide) (by decide) | exact mul_r (by decide) (by decide) | exact mul_ok (by l_ints) (by l_ints) (by decide)); conv => whnf) | (refine ⟨⟨by decide, by decide, by decide⟩, ?_⟩; conv => whnf) | (refine ⟨⟨by decide, by decide, by omega⟩, ?_⟩; conv => whnf) | (refine ⟨small_sz (Nat.le_of_ble_eq_true rfl), ?_⟩; conv => whnf) | fail))
  exact q
def sp_law_times : DSp := fun ds Q X => ∃ (p q : Vec) (m : Nat), ds = [vD p, vD q] ∧ Bd m p.1 ∧ Bd m p.2 ∧ Bd m q.1 ∧ Bd m q.2 ∧ m ≤ 400000 ∧ Q (.d (vD (p.1 * q.1, p.2 * q.2)))
theorem p_law_times {G : Nat → DSp} : FnW G 2 2 m_law_times sp_law_times := by
  intro ds Q X ⟨p, p', m, e0, a1, a2, a3, a4, l, q⟩
  subst e0
  refine ⟨rfl, ?_⟩
  conv => whnf
  refine ⟨mul_ok a1 a3 (by omega), ?_⟩
  conv => whnf
  refine ⟨mul_ok a2 a4 (by omega), ?_⟩
  ((conv => whnf); repeat' (first | (refine wIf_tt ?_; conv => whnf) | (refine wIf_ff ?_; conv => whnf) | (refine wIf.mk (fun hif => (have hif := of_decide_eq_true hif; ?_)) (fun hif => (have hif := of_decide_eq_false hif; ?_)) <;> (conv => whnf)) | (refine wIf_not ?_) | (refine ⟨(by decide : (_ : Int) ≠ 0), fun w _ hw => ?_⟩; replace hw := hw (by decide); conv => whnf) | (refine ⟨(by decide : (_ : Int) ≠ 0), div_lit (by decide), fun w _ hw => ?_⟩; replace hw := hw (by decide); conv => whnf) | (refine eq_rD ?_; conv => whnf) | (refine eq_ts ?_; conv => whnf) | (refine ne_ts ?_; conv => whnf) | (refine ne_rD ?_; conv => whnf) | (refine eq_vD ?_; conv => whnf) | (refine ne_vD ?_; conv => whnf) | (refine ⟨isi_ok rfl, ?_⟩; conv => whnf) | (apply wMulS.mk; (first | exact mul_l (by decide) (by decide) | exact mul_r (by decide) (by decide) | exact mul_ok (by l_ints) (by l_ints) (by decide)); conv => whnf) | (refine ⟨⟨by decide, by decide, by decide⟩, ?_⟩; conv => whnf) | (refine ⟨⟨by decide, by decide, by omega⟩, ?_⟩; conv => whnf) | (refine ⟨small_sz (Nat.le_of_ble_eq_true rfl), ?_⟩; conv => whnf) | fail))
  exact q
def sp_law_right_2 : DSp := fun ds Q X => ∃ (e n e' n' r : Rat) (v : Vec), ds = [.tuple [rD e, rD n], .tuple [rD e', rD n'], rD r, vD v] ∧ RB 300 e ∧ RB 300 n ∧ RB 300 e' ∧ RB 300 n' ∧ RB 300 r ∧ Bd 300 v.1 ∧ Bd 300 v.2 ∧ Q (.d (.bool true))
theorem p_law_right_2 {G : Nat → DSp} (g20 : G 20 = sp_place_of) (g5 : G 5 = sp_law_is) (g21 : G 21 = sp_east_of) (g27 : G 27 = sp_law_place) (g22 : G 22 = sp_north_of) (g23 : G 23 = sp_place_added) (g28 : G 28 = sp_law_sum) (g24 : G 24 = sp_place_taken) (g25 : G 25 = sp_place_times) (g29 : G 29 = sp_law_times) (g26 : G 26 = sp_along) : FnW G 7 4 m_law_right_2 sp_law_right_2 := by
  intro ds Q X ⟨e, n, e', n', r, v, e0, he, hn, he', hn', hr, hv1, hv2, q⟩
  subst e0
  refine ⟨rfl, ?_⟩
  have hp := PB.of he hn
  have hp' := PB.of he' hn'
  have hp2 := hp.mono (show 300 + 300 ≤ 8990 by decide)
  have c1 : e.num * e.den = e.num * e.den := rfl
  have k1 := hp.add hp'
  have k2 := hp.add hp'.neg
  have k3 := hp.times hr
  have one : Bd 300 1 := by decide
  have k4 : PB (300 + 300 + (300 + 300) + 1) (e - e') (n - n') := by rw [Rat.sub_eq_add_neg, Rat.sub_eq_add_neg]; exact k2
  obtain ⟨he1, he2⟩ := id he
  obtain ⟨hn1, hn2⟩ := id hn
  obtain ⟨he1', he2'⟩ := id he'
  obtain ⟨hn1', hn2'⟩ := id hn'
  obtain ⟨hr1, hr2⟩ := id hr
  have f1 : ∀ x y : Rat, (x + y).num * ((x.den : Int) * y.den) = (x.num * y.den + 1 * y.num * x.den) * (x + y).den := fun x y => by have := is_add x y; rw [Int.one_mul]; exact this
  have f2 : ∀ x y : Rat, (x - y).num * ((x.den : Int) * y.den) = (x.num * y.den + -1 * y.num * x.den) * (x - y).den := fun x y => by have := is_sub x y; grind
  have f4 : (v.1 : Rat) * e + v.2 * n = Rat.divInt (e.num * v.1 * (n.den * 1) + 1 * (n.num * v.2) * (e.den * 1)) (e.den * 1 * (n.den * 1)) := by
    rw [Int.mul_one, Int.mul_one, Int.one_mul, ← Rat.divInt_add_divInt _ _ (den_ne e) (den_ne n)]
    have g : ∀ (x : Rat) (a : Int), Rat.divInt (x.num * a) x.den = a * x := fun x a => by
      have h1 := Rat.num_divInt_den x
      rw [Rat.divInt_eq_div] at h1 ⊢
      rw [Rat.intCast_mul]
      have hc : ((x.den : Int) : Rat) ≠ 0 := fun z => den_ne x (Rat.intCast_inj.mp (z.trans (by rfl : (0 : Rat) = ((0 : Int) : Rat))))
      grind
    rw [g, g]
  have f3 : ((v.1 : Rat) * e + v.2 * n).num * (e.den * 1 * (n.den * 1)) = (e.num * v.1 * (n.den * 1) + 1 * (n.num * v.2) * (e.den * 1)) * ((v.1 : Rat) * e + v.2 * n).den := by
    refine (Rat.divInt_eq_divInt_iff (den_ne _) (Int.mul_ne_zero (Int.mul_ne_zero (den_ne e) (by decide)) (Int.mul_ne_zero (den_ne n) (by decide)))).mp ?_
    rw [Rat.num_divInt_den, f4]
  have k5 : RB 3000 ((v.1 : Rat) * e + v.2 * n) := by
    rw [f4]
    exact RB.divInt (Bd.mono (by l_ints) (by decide)) (Bd.mono (by l_ints) (by decide)) (Int.mul_ne_zero (Int.mul_ne_zero (den_ne e) (by decide)) (Int.mul_ne_zero (den_ne n) (by decide)))
  ((conv => whnf); repeat' (first | (refine gC g20 ⟨_, _, 300, 300, rfl, by assumption, by assumption, by decide, ?_⟩; conv => whnf) | (refine gC g27 ⟨e, n, (e.num, e.den), (n.num, n.den), _, 300, rfl, hp, he.1, he.2, hn.1, hn.2, by decide, rfl, rfl, ?_⟩; conv => whnf) | (refine gC g21 ⟨_, _, rfl, hp2, ?_⟩; conv => whnf) | (refine gC g22 ⟨_, _, rfl, hp2, ?_⟩; conv => whnf) | (refine gC g5 ⟨_, _, _, 300, 300, rfl, he, he.1, he.2, by decide, rfl, ?_⟩; conv => whnf) | (refine gC g5 ⟨_, _, _, 300, 300, rfl, hn, hn.1, hn.2, by decide, rfl, ?_⟩; conv => whnf) | (refine gC g23 ⟨_, _, _, _, _, _, rfl, hp, hp', by decide, ?_⟩; conv => whnf) | (refine gC g24 ⟨_, _, _, _, _, _, rfl, hp, hp', by decide, ?_⟩; conv => whnf) | (refine gC g25 ⟨_, _, _, _, _, rfl, hp, hr, by decide, ?_⟩; conv => whnf) | (refine gC g28 ⟨(e.num, e.den), (e'.num, e'.den), _, 300, rfl, he.1, he.2, he'.1, he'.2, by decide, by decide, ?_⟩; conv => whnf) | (refine gC g28 ⟨(n.num, n.den), (n'.num, n'.den), _, 300, rfl, hn.1, hn.2, hn'.1, hn'.2, by decide, by decide, ?_⟩; conv => whnf) | (refine gC g29 ⟨(e.num, e.den), (r.num, r.den), 300, rfl, he.1, he.2, hr.1, hr.2, by decide, ?_⟩; conv => whnf) | (refine gC g29 ⟨(n.num, n.den), (r.num, r.den), 300, rfl, hn.1, hn.2, hr.1, hr.2, by decide, ?_⟩; conv => whnf) | (refine gC g29 ⟨(e.num, e.den), (v.1, 1), 300, rfl, he.1, he.2, hv1, one, by decide, ?_⟩; conv => whnf) | (refine gC g29 ⟨(n.num, n.den), (v.2, 1), 300, rfl, hn.1, hn.2, hv2, one, by decide, ?_⟩; conv => whnf) | (refine gC g26 ⟨_, _, _, _, _, 300, rfl, hp, hv1, hv2, by decide, ?_⟩; conv => whnf) | (refine gC g27 ⟨e + e', n + n', _, _, _, 3000, rfl, k1, Bd.mono (by l_ints) (by decide), Bd.mono (by l_ints) (by decide), Bd.mono (by l_ints) (by decide), Bd.mono (by l_ints) (by decide), by decide, f1 e e', f1 n n', ?_⟩; conv => whnf) | (refine gC g27 ⟨e - e', n - n', _, _, _, 3000, rfl, k4, Bd.mono (by l_ints) (by decide), Bd.mono (by l_ints) (by decide), Bd.mono (by l_ints) (by decide), Bd.mono (by l_ints) (by decide), by decide, f2 e e', f2 n n', ?_⟩; conv => whnf) | (refine gC g27 ⟨e * r, n * r, _, _, _, 3000, rfl, k3, Bd.mono (by l_ints) (by decide), Bd.mono (by l_ints) (by decide), Bd.mono (by l_ints) (by decide), Bd.mono (by l_ints) (by decide), by decide, is_mul e r, is_mul n r, ?_⟩; conv => whnf) | (refine gC g28 ⟨(e.num * v.1, e.den * 1), (n.num * v.2, n.den * 1), _, 700, rfl, Bd.mono (by l_ints) (by decide), Bd.mono (by l_ints) (by decide), Bd.mono (by l_ints) (by decide), Bd.mono (by l_ints) (by decide), by decide, by decide, ?_⟩; conv => whnf) | (refine gC g5 ⟨_, _, _, _, 3000, rfl, k5, Bd.mono (by l_ints) (by decide), Bd.mono (by l_ints) (by decide), by decide, f3, ?_⟩; conv => whnf) | (refine wIf_tt ?_; conv => whnf) | (refine wIf_ff ?_; conv => whnf) | (refine wIf.mk (fun hif => (have hif := of_decide_eq_true hif; ?_)) (fun hif => (have hif := of_decide_eq_false hif; ?_)) <;> (conv => whnf)) | (refine wIf_not ?_) | (refine ⟨(by decide : (_ : Int) ≠ 0), fun w _ hw => ?_⟩; replace hw := hw (by decide); conv => whnf) | (refine ⟨(by decide : (_ : Int) ≠ 0), div_lit (by decide), fun w _ hw => ?_⟩; replace hw := hw (by decide); conv => whnf) | (refine eq_rD ?_; conv => whnf) | (refine eq_ts ?_; conv => whnf) | (refine ne_ts ?_; conv => whnf) | (refine ne_rD ?_; conv => whnf) | (refine eq_vD ?_; conv => whnf) | (refine ne_vD ?_; conv => whnf) | (refine ⟨isi_ok rfl, ?_⟩; conv => whnf) | (apply wMulS.mk; (first | exact mul_l (by decide) (by decide) | exact mul_r (by decide) (by decide) | exact mul_ok (by l_ints) (by l_ints) (by decide)); conv => whnf) | (refine ⟨⟨by decide, by decide, by decide⟩, ?_⟩; conv => whnf) | (refine ⟨⟨by decide, by decide, by omega⟩, ?_⟩; conv => whnf) | (refine ⟨small_sz (Nat.le_of_ble_eq_true rfl), ?_⟩; conv => whnf) | fail))
  exact q
def half : Rat := ⟨1, 2, by decide, by decide⟩
theorem pick2 {i a b : Int} (h0 : 0 ≤ i) (h1 : i < 2) : ∃ z, atI [PyData.int a, .int b] i = some (.int z) ∧ (z = a ∨ z = b) := by
  obtain ⟨x, h2, h3⟩ := atI_mem (ds := [PyData.int a, .int b]) h0 (by simpa using h1)
  simp at h3
  rcases h3 with h3 | h3 <;> subst h3
  · exact ⟨a, h2, .inl rfl⟩
  · exact ⟨b, h2, .inr rfl⟩
def sp_law_4 : DSp := fun ds Q X => ∃ ns : List Int, ds = [.list (ns.map .int)] ∧ ns.length ≤ 63 ∧ Q (.d (.bool true))
theorem p_law_4 {G : Nat → DSp} (g4 : G 4 = sp_law_fraction) (g2 : G 2 = sp_law_stir) (g30 : G 30 = sp_law_right_2) : FnW G 8 1 m_law_4 sp_law_4 := by
  intro ds Q X ⟨ns, e, hn, q⟩
  subst e
  refine ⟨rfl, ?_⟩
  conv => whnf
  rw [show cutD (ns.map PyData.int) none (some 80) = (ns.take 80).map .int from by rw [List.map_take]; exact cut_to _ 80]
  refine row_lc g4 (by simp [wip, dst]) _ _ (fun x k hk => ?_) fun rs hl hb => ?_
  · conv => whnf
    refine gC g4 ⟨_, _, 1, rfl, by decide, by decide, fun r hr => ?_⟩
    conv => whnf
    exact hk r hr
  obtain ⟨R, hR⟩ : ∃ R : List Rat, R = rs ++ [0, 0, half] := ⟨_, rfl⟩
  have e1 : rs.map rD ++ [.tuple [.int 0, .int 1], .tuple [.int 0, .int 1], .tuple [.int 1, .int 2]] = R.map rD := by rw [hR, List.map_append]; rfl
  have hbR : ∀ r ∈ R, RB 300 r := by
    intro r hr
    rw [hR] at hr
    rcases List.mem_append.mp hr with h | h
    · exact hb r h
    · simp at h
      rcases h with h | h <;> subst h
      · exact ⟨by decide, by decide⟩
      · exact ⟨by decide, by decide⟩
  have hlR : 3 ≤ R.length ∧ R.length ≤ 66 := by
    have := congrArg List.length hR
    simp at this hl
    omega
  ((conv => whnf); repeat' (first | (refine wIf_tt ?_; conv => whnf) | (refine wIf_ff ?_; conv => whnf) | (refine wIf.mk (fun hif => (have hif := of_decide_eq_true hif; ?_)) (fun hif => (have hif := of_decide_eq_false hif; ?_)) <;> (conv => whnf)) | (refine wIf_not ?_) | (refine ⟨(by decide : (_ : Int) ≠ 0), fun w _ hw => ?_⟩; replace hw := hw (by decide); conv => whnf) | (refine ⟨(by decide : (_ : Int) ≠ 0), div_lit (by decide), fun w _ hw => ?_⟩; replace hw := hw (by decide); conv => whnf) | (refine eq_rD ?_; conv => whnf) | (refine eq_ts ?_; conv => whnf) | (refine ne_ts ?_; conv => whnf) | (refine ne_rD ?_; conv => whnf) | (refine eq_vD ?_; conv => whnf) | (refine ne_vD ?_; conv => whnf) | (refine ⟨isi_ok rfl, ?_⟩; conv => whnf) | (apply wMulS.mk; (first | exact mul_l (by decide) (by decide) | exact mul_r (by decide) (by decide) | exact mul_ok (by l_ints) (by l_ints) (by decide)); conv => whnf) | (refine ⟨⟨by decide, by decide, by decide⟩, ?_⟩; conv => whnf) | (refine ⟨⟨by decide, by decide, by omega⟩, ?_⟩; conv => whnf) | (refine ⟨small_sz (Nat.le_of_ble_eq_true rfl), ?_⟩; conv => whnf) | fail))
  refine ⟨small_sz (by simp at hl ⊢; omega), ?_⟩
  conv => whnf
  rw [e1]
  have hlen : ((R.map rD).length : Int) = R.length := by simp
  rw [hlen]
  have hsz : (R.length : Int) ≤ sizeLine := by have : (100 : Nat) ≤ sizeLine := by decide
                                               omega
  refine ⟨by omega, by omega, ?_⟩
  conv => whnf
  refine ⟨rfl, ?_⟩
  refine rng_ind (fun i ρ => ∃ a b c d e : Option DL.R, ρ = [some (.d (.list (ns.map .int))), some (.d (RowD R)), none, a, b, c, d, e]) _ ?_ ?_ _ ⟨none, none, none, none, none, rfl⟩
  · rintro ρ ⟨a, b, c, d, e, rfl⟩
    conv => whnf
    exact q
  · rintro i ρ hi ⟨a, b, c, d, e, rfl⟩ nx hnx
    obtain ⟨r, a1, hr⟩ := row_at (rs := R) (i := (i : Int)) (by omega) (by omega) hbR
    obtain ⟨s, a2, hs⟩ := row_at (rs := R) (i := (i : Int) + 1) (by omega) (by omega) hbR
    obtain ⟨t, a3, ht⟩ := row_at (rs := R) (i := (i : Int) + 2) (by omega) (by omega) hbR
    have bi : Bd 20 (i : Int) := bd_of (by omega) (by omega)
    have fin : ∀ (x y : Int), Bd 300 x → Bd 300 y → ∀ Q : DL.R → Prop, Q (.d (.bool true)) → G 30 [.tuple [rD r, rD s], .tuple [rD s, rD t], rD t, vD (x, y)] Q X := fun x y h1 h2 Q h => gC g30 ⟨r, s, s, t, t, (x, y), rfl, hr, hs, hs, ht, ht, h1, h2, h⟩
    have fin2 : ∀ (x y : Int), Bd 300 x → Bd 300 y → ∀ Q : DL.R → Prop, Q (.d (.bool true)) → G 30 [.tuple [rD s, rD t], .tuple [rD r, rD s], rD r, vD (x, y)] Q X := fun x y h1 h2 Q h => gC g30 ⟨s, t, r, s, r, (x, y), rfl, hs, ht, hr, hs, hr, h1, h2, h⟩
    ((conv => whnf); repeat' (first | (rw [a1]; conv => whnf) | (rw [a2]; conv => whnf) | (rw [a3]; conv => whnf) | (refine gC g2 ⟨_, _, 20, rfl, bi, by decide, fun z hz bz => ?_⟩; conv => whnf) | (refine wIf_tt ?_; conv => whnf) | (refine wIf_ff ?_; conv => whnf) | (refine wIf.mk (fun hif => (have hif := of_decide_eq_true hif; ?_)) (fun hif => (have hif := of_decide_eq_false hif; ?_)) <;> (conv => whnf)) | (refine wIf_not ?_) | (refine ⟨(by decide : (_ : Int) ≠ 0), fun w _ hw => ?_⟩; replace hw := hw (by decide); conv => whnf) | (refine ⟨(by decide : (_ : Int) ≠ 0), div_lit (by decide), fun w _ hw => ?_⟩; replace hw := hw (by decide); conv => whnf) | (refine eq_rD ?_; conv => whnf) | (refine eq_ts ?_; conv => whnf) | (refine ne_ts ?_; conv => whnf) | (refine ne_rD ?_; conv => whnf) | (refine eq_vD ?_; conv => whnf) | (refine ne_vD ?_; conv => whnf) | (refine ⟨isi_ok rfl, ?_⟩; conv => whnf) | (apply wMulS.mk; (first | exact mul_l (by decide) (by decide) | exact mul_r (by decide) (by decide) | exact mul_ok (by l_ints) (by l_ints) (by decide)); conv => whnf) | (refine ⟨⟨by decide, by decide, by decide⟩, ?_⟩; conv => whnf) | (refine ⟨⟨by decide, by decide, by omega⟩, ?_⟩; conv => whnf) | (refine ⟨small_sz (Nat.le_of_ble_eq_true rfl), ?_⟩; conv => whnf) | fail))
    have hp : (10 : Int) ^ (20 : Int).toNat = 10 ^ 20 := rfl
    obtain ⟨m, a4, hm⟩ := pick2 (i := w) (a := 3) (b := 10 ^ (20 : Int).toNat) (by omega) (by omega)
    have hm1 : 3 ≤ m ∧ m ≤ 10 ^ 20 := by omega
    rw [a4]
    conv => whnf
    refine ⟨by omega, fun v _ hv => ?_⟩
    have hv := hv (by omega)
    have hv1 : 0 ≤ v := by rw [hv]; exact Int.emod_nonneg _ (by omega)
    have hv2 : v < m := by rw [hv]; exact Int.emod_lt_of_pos _ (by omega)
    ((conv => whnf); repeat' (first | (rw [a1]; conv => whnf) | (rw [a2]; conv => whnf) | (rw [a3]; conv => whnf) | (refine fin _ _ (Bd.mono (by l_ints) (by decide)) (Bd.mono (by l_ints) (by decide)) _ ?_; conv => whnf) | (refine fin2 _ _ (Bd.mono (by l_ints) (by decide)) (Bd.mono (by l_ints) (by decide)) _ ?_; conv => whnf) | (refine wIf_tt ?_; conv => whnf) | (refine wIf_ff ?_; conv => whnf) | (refine wIf.mk (fun hif => (have hif := of_decide_eq_true hif; ?_)) (fun hif => (have hif := of_decide_eq_false hif; ?_)) <;> (conv => whnf)) | (refine wIf_not ?_) | (refine ⟨(by decide : (_ : Int) ≠ 0), fun w _ hw => ?_⟩; replace hw := hw (by decide); conv => whnf) | (refine ⟨(by decide : (_ : Int) ≠ 0), div_lit (by decide), fun w _ hw => ?_⟩; replace hw := hw (by decide); conv => whnf) | (refine eq_rD ?_; conv => whnf) | (refine eq_ts ?_; conv => whnf) | (refine ne_ts ?_; conv => whnf) | (refine ne_rD ?_; conv => whnf) | (refine eq_vD ?_; conv => whnf) | (refine ne_vD ?_; conv => whnf) | (refine ⟨isi_ok rfl, ?_⟩; conv => whnf) | (apply wMulS.mk; (first | exact mul_l (by decide) (by decide) | exact mul_r (by decide) (by decide) | exact mul_ok (by l_ints) (by l_ints) (by decide)); conv => whnf) | (refine ⟨⟨by decide, by decide, by decide⟩, ?_⟩; conv => whnf) | (refine ⟨⟨by decide, by decide, by omega⟩, ?_⟩; conv => whnf) | (refine ⟨small_sz (Nat.le_of_ble_eq_true rfl), ?_⟩; conv => whnf) | fail))
    exact hnx _ ⟨_, _, _, _, _, rfl⟩
end DL
end
section
namespace DL
def m_law_cell : Ss := (.cons (.ifs (.cmp .Lt (.v 1) (.bi .len (.cons (.v 0) .nil))) (.cons (.ret (.ix (.v 0) (.v 1))) .nil) .nil) (.cons (.ret (.int 0)) .nil))
end DL
end
section
namespace DL
def m_law_vector : Ss := (.cons (.set 3 (.bin .FloorDiv (.call 2 (.cons (.v 0) (.cons (.int 0) .nil))) (.int 7))) (.cons (.ifs (.cmp .Gt (.ix (.v 2) (.int 0)) (.int 3)) (.cons (.set 3 (.v 0)) .nil) .nil) (.cons (.set 4 (.bin .Sub (.bin .Mod (.v 3) (.bin .Add (.bin .Mult (.int 2) (.v 1)) (.int 1))) (.v 1))) (.cons (.set 5 (.bin .Sub (.bin .Mod (.bin .FloorDiv (.v 3) (.bin .Add (.bin .Mult (.int 2) (.v 1)) (.int 1))) (.bin .Add (.bin .Mult (.int 2) (.v 1)) (.int 1))) (.v 1))) (.cons (.ifs (.cmp .Eq (.ix (.v 2) (.int 0)) (.int 1)) (.cons (.ret (.tup (.cons (.bin .Mult (.v 4) (.ix (.v 2) (.int 1))) (.cons (.bin .Mult (.v 4) (.ix (.v 2) (.int 2))) .nil)))) .nil) .nil) (.cons (.ifs (.cmp .Eq (.ix (.v 2) (.int 0)) (.int 2)) (.cons (.ret (.tup (.cons (.ix (.v 2) (.int 1)) (.cons (.ix (.v 2) (.int 2)) .nil)))) .nil) .nil) (.cons (.ifs (.cmp .Eq (.ix (.v 2) (.int 0)) (.int 3)) (.cons (.ret (.tup (.cons (.bin .Add (.bin .Mult (.bin .FloorDiv (.v 4) (.int 2)) (.int 2)) (.ix (.v 2) (.int 1))) (.cons (.bin .Mult (.bin .FloorDiv (.v 5) (.int 2)) (.int 2)) .nil)))) .nil) .nil) (.cons (.ret (.tup (.cons (.v 4) (.cons (.v 5) .nil)))) .nil))))))))
end DL
end
section
namespace DL
def m_law_wind : Ss := (.cons (.set 2 (.bin .FloorDiv (.call 2 (.cons (.v 1) (.cons (.int 9) .nil))) (.int 7))) (.cons (.set 3 (.ix (.lst (.cons (.int 1) (.cons (.int 3) (.cons (.int 12) (.cons (.int 2) (.cons (.bin .Pow (.int 10) (.int 9)) .nil)))))) (.bin .Mod (.v 2) (.int 5)))) (.cons (.set 4 (.lst (.cons (.bin .Mod (.bin .FloorDiv (.v 2) (.int 5)) (.int 8)) (.cons (.bin .Sub (.bin .Mod (.bin .FloorDiv (.v 2) (.int 40)) (.int 7)) (.int 3)) (.cons (.bin .Add (.int 1) (.bin .Mod (.bin .FloorDiv (.v 2) (.int 280)) (.int 3))) .nil))))) (.cons (.frz 4) (.cons (.set 5 (.ix (.lst (.cons (.int 1) (.cons (.bin .Add (.bin .Pow (.int 10) (.int 60)) (.int 7)) .nil))) (.bi .int1 (.cons (.cmp .Eq (.bin .Mod (.bin .FloorDiv (.v 2) (.int 900)) (.int 8)) (.int 1)) .nil)))) (.cons (.set 6 (.lc (.call 36 (.cons (.v 7) (.cons (.v 3) (.cons (.v 4) .nil)))) (.nm 7) (.ex (.v 0)) .nil [("cell", 7)])) (.cons (.frz 6) (.cons (.ret (.bi .tuple1 (.cons (.lc (.tup (.cons (.bin .Mult (.ix (.v 8) (.int 0)) (.v 5)) (.cons (.bin .Mult (.ix (.v 8) (.int 1)) (.v 5)) .nil))) (.nm 8) (.ex (.v 6)) .nil [("v", 8)]) .nil))) .nil))))))))
end DL
end
section
namespace DL
def m_law_whole : Ss := (.cons (.ret (.and (.isi (.v 0) "int") (.and (.not (.isi (.v 0) "bool")) (.cmp .Eq (.v 0) (.v 1))))) .nil)
end DL
end
section
namespace DL
def m_law_pair_2 : Ss := (.cons (.ifs (.not (.call 38 (.cons (.call 32 (.cons (.v 0) (.cons (.v 1) .nil))) (.cons (.bin .Sub (.bin .Mult (.ix (.v 0) (.int 0)) (.ix (.v 1) (.int 1))) (.bin .Mult (.ix (.v 0) (.int 1)) (.ix (.v 1) (.int 0)))) .nil)))) (.cons (.ret (.bl false)) .nil) .nil) (.cons (.ret (.call 38 (.cons (.call 33 (.cons (.v 0) (.cons (.v 1) .nil))) (.cons (.bin .Add (.bin .Mult (.ix (.v 0) (.int 0)) (.ix (.v 1) (.int 0))) (.bin .Mult (.ix (.v 0) (.int 1)) (.ix (.v 1) (.int 1)))) .nil)))) .nil))
end DL
end
section
namespace DL
def m_law_5 : Ss := (.cons (.set 1 (.call 37 (.cons (.sl (.bin .Add (.v 0) (.lst (.cons (.int 0) .nil))) .nil (.cons (.int 200) .nil)) (.cons (.call 35 (.cons (.v 0) (.cons (.int 0) .nil))) .nil)))) (.cons (.set 2 (.lc (.v 3) (.nm 3) (.ex (.sl (.v 1) .nil (.cons (.int 20) .nil))) (.cons (.cmp .NotEq (.v 3) (.tup (.cons (.int 0) (.cons (.int 0) .nil)))) .nil) [("vector", 3)])) (.cons (.for_ (.nm 4) (.ex (.sl (.v 0) .nil (.cons (.int 20) .nil))) (.cons (.set 5 (.bin .FloorDiv (.call 2 (.cons (.v 4) (.cons (.int 4) .nil))) (.int 7))) (.cons (.app 2 (.tup (.cons (.bin .Sub (.bin .Mod (.v 5) (.bin .Mult (.int 2) (.bin .Pow (.int 10) (.int 12)))) (.bin .Pow (.int 10) (.int 12))) (.cons (.bin .Add (.int 1) (.bin .Mod (.bin .FloorDiv (.v 5) (.int 5)) (.bin .Pow (.int 10) (.int 12)))) .nil)))) .nil))) (.cons (.frz 2) (.cons (.for_ (.nm 6) (.rng1 (.bi .len (.cons (.v 1) .nil))) (.cons (.ifs (.or (.not (.call 39 (.cons (.ix (.v 1) (.bin .Sub (.v 6) (.int 1))) (.cons (.ix (.v 1) (.v 6)) .nil)))) (.not (.call 39 (.cons (.ix (.v 1) (.v 6)) (.cons (.ix (.v 1) (.v 6)) .nil))))) (.cons (.ret (.bl false)) .nil) .nil) .nil)) (.cons (.for_ (.nm 7) (.ex (.v 2)) (.cons (.set 8 .non) (.cons (.for_ (.nm 3) (.ex (.v 1)) (.cons (.set 9 (.bin .Add (.bin .Mult (.ix (.v 3) (.int 0)) (.ix (.v 7) (.int 0))) (.bin .Mult (.ix (.v 3) (.int 1)) (.ix (.v 7) (.int 1))))) (.cons (.ifs (.or (.isN (.v 8)) (.cmp .Gt (.v 9) (.v 8))) (.cons (.set 8 (.v 9)) .nil) .nil) .nil))) (.cons (.ifs (.not (.call 38 (.cons (.call 34 (.cons (.v 1) (.cons (.v 7) .nil))) (.cons (.v 8) .nil)))) (.cons (.ret (.bl false)) .nil) .nil) .nil)))) (.cons (.ret (.bl true)) .nil)))))))
end DL
end
section
set_option maxRecDepth 100000
set_option maxHeartbeats 4000000
set_option exponentiation.threshold 100000
namespace DL
open PySem L2
local macro_rules | `(tactic| l_ints) => `(tactic| first | (assumption) | (apply Bd.neg; l_ints) | (apply Bd.mul <;> l_ints) | (exact bd40 (by omega) (by omega)) | (apply Bd.add <;> l_ints) | (apply Bd.sub <;> l_ints) | (exact bd130 (by omega) (by omega)) | (exact bd210 (by omega) (by omega)) | (exact bd_self _) | fail)
def sp_law_cell : DSp := fun ds Q X => ∃ (ns : List Int) (k : Nat), ds = [.list (ns.map .int), .int k] ∧ ∀ c : Int, Q (.d (.int c))
theorem p_law_cell {G : Nat → DSp} : FnW G 2 2 m_law_cell sp_law_cell := by
  intro ds Q X ⟨ns, k, e, q⟩
  subst e
  refine ⟨rfl, ?_⟩
  ((conv => whnf); repeat' (first | (refine wIf_tt ?_; conv => whnf) | (refine wIf_ff ?_; conv => whnf) | (refine wIf.mk (fun hif => (have hif := of_decide_eq_true hif; ?_)) (fun hif => (have hif := of_decide_eq_false hif; ?_)) <;> (conv => whnf)) | (refine wIf_not ?_) | (refine ⟨(by decide : (_ : Int) ≠ 0), fun w _ hw => ?_⟩; replace hw := hw (by decide); conv => whnf) | (refine ⟨(by decide : (_ : Int) ≠ 0), div_lit (by decide), fun w _ hw => ?_⟩; replace hw := hw (by decide); conv => whnf) | (refine eq_rD ?_; conv => whnf) | (refine eq_ts ?_; conv => whnf) | (refine ne_ts ?_; conv => whnf) | (refine ne_rD ?_; conv => whnf) | (refine eq_vD ?_; conv => whnf) | (refine ne_vD ?_; conv => whnf) | (refine ⟨isi_ok rfl, ?_⟩; conv => whnf) | (apply wMulS.mk; (first | exact mul_l (by decide) (by decide) | exact mul_r (by decide) (by decide) | exact mul_ok (by l_ints) (by l_ints) (by decide)); conv => whnf) | (refine ⟨⟨by decide, by decide, by decide⟩, ?_⟩; conv => whnf) | (refine ⟨⟨by decide, by decide, by omega⟩, ?_⟩; conv => whnf) | (refine ⟨small_sz (Nat.le_of_ble_eq_true rfl), ?_⟩; conv => whnf) | fail))
  · obtain ⟨d, h1, h2⟩ := atI_mem (ds := ns.map .int) (i := (k : Int)) (by omega) (by simpa using hif)
    obtain ⟨c, h3, h4⟩ := List.mem_map.mp h2
    rw [h1, ← h4]
    exact q c
  · exact q 0
def sp_law_vector : DSp := fun ds Q X => ∃ (c s a b d : Int), ds = [.int c, .int s, .list [.int a, .int b, .int d]] ∧ 1 ≤ s ∧ s ≤ 10 ^ 9 ∧ -3 ≤ b ∧ b ≤ 3 ∧ 0 ≤ d ∧ d ≤ 3 ∧ ∀ v, VB 100 v → Q (.d (vD v))
theorem p_law_vector {G : Nat → DSp} (g2 : G 2 = sp_law_stir) : FnW G 6 3 m_law_vector sp_law_vector := by
  intro ds Q X ⟨c, s, a, b, d, e, h1, h2, h3, h4, h5, h6, q⟩
  subst e
  refine ⟨rfl, ?_⟩
  have bs : Bd 40 (2 * s + 1) := bd40 (by omega) (by omega)
  have key : ∀ l r : Int, (0 < 2 * s + 1 → r = l % (2 * s + 1)) → 0 ≤ r ∧ r ≤ 2 * s := fun l r h => by
    have h := h (by omega)
    have a := Int.emod_nonneg l (show 2 * s + 1 ≠ 0 by omega)
    have b := Int.emod_lt_of_pos l (show 0 < 2 * s + 1 by omega)
    omega
  ((conv => whnf); repeat' (first | (refine gC g2 ⟨_, _, 1, rfl, by decide, by decide, fun z hz bz => ?_⟩; conv => whnf) | (refine ⟨by omega, fun w _ hw => ?_⟩; replace hw := key _ _ hw; conv => whnf) | (refine ⟨by omega, div_ok bs (by decide), fun w _ _ => ?_⟩; conv => whnf) | (refine wIf_tt ?_; conv => whnf) | (refine wIf_ff ?_; conv => whnf) | (refine wIf.mk (fun hif => (have hif := of_decide_eq_true hif; ?_)) (fun hif => (have hif := of_decide_eq_false hif; ?_)) <;> (conv => whnf)) | (refine wIf_not ?_) | (refine ⟨(by decide : (_ : Int) ≠ 0), fun w _ hw => ?_⟩; replace hw := hw (by decide); conv => whnf) | (refine ⟨(by decide : (_ : Int) ≠ 0), div_lit (by decide), fun w _ hw => ?_⟩; replace hw := hw (by decide); conv => whnf) | (refine eq_rD ?_; conv => whnf) | (refine eq_ts ?_; conv => whnf) | (refine ne_ts ?_; conv => whnf) | (refine ne_rD ?_; conv => whnf) | (refine eq_vD ?_; conv => whnf) | (refine ne_vD ?_; conv => whnf) | (refine ⟨isi_ok rfl, ?_⟩; conv => whnf) | (apply wMulS.mk; (first | exact mul_l (by decide) (by decide) | exact mul_r (by decide) (by decide) | exact mul_ok (by l_ints) (by l_ints) (by decide)); conv => whnf) | (refine ⟨⟨by decide, by decide, by decide⟩, ?_⟩; conv => whnf) | (refine ⟨⟨by decide, by decide, by omega⟩, ?_⟩; conv => whnf) | (refine ⟨small_sz (Nat.le_of_ble_eq_true rfl), ?_⟩; conv => whnf) | fail))
  all_goals exact q (_, _) ⟨Bd.mono (by l_ints) (by decide), Bd.mono (by l_ints) (by decide)⟩
theorem pick5 {i a b c d e : Int} (h0 : 0 ≤ i) (h1 : i < 5) : ∃ z, atI [PyData.int a, .int b, .int c, .int d, .int e] i = some (.int z) ∧ (z = a ∨ z = b ∨ z = c ∨ z = d ∨ z = e) := by
  obtain ⟨x, h2, h3⟩ := atI_mem (ds := [PyData.int a, .int b, .int c, .int d, .int e]) h0 (by simpa using h1)
  simp at h3
  rcases h3 with h3 | h3 | h3 | h3 | h3 <;> subst h3
  · exact ⟨a, h2, .inl rfl⟩
  · exact ⟨b, h2, .inr (.inl rfl)⟩
  · exact ⟨c, h2, .inr (.inr (.inl rfl))⟩
  · exact ⟨d, h2, .inr (.inr (.inr (.inl rfl)))⟩
  · exact ⟨e, h2, .inr (.inr (.inr (.inr rfl)))⟩
theorem lc_each {α β : Type} {G : Nat → DSp} {t : Tg} {el : En → (R → Prop) → Prop} {ρ : En} {Q : R → Prop} (f : α → D) (g : β → D) (P : β → Prop) (xs : List α)
    (h1 : ∀ x ∈ xs, ∀ k : D → Prop, (∀ y, P y → k (g y)) → stT t (f x) ρ fun ρ2 => el ρ2 fun r => frzP r k)
    (h0 : ∀ ys : List β, ys.length = xs.length → (∀ y ∈ ys, P y) → Q (.l (ys.map g) true)) : lcLoop (stT t) (fun ρ2 k => wCond G .nil ρ2 k) el ρ (xs.map f) [] Q := by
  refine lc_ind (fun ds acc => ∃ zs ys, ds = zs.map f ∧ acc = ys.map g ∧ ys.length + zs.length = xs.length ∧ (∀ z ∈ zs, z ∈ xs) ∧ ∀ y ∈ ys, P y) ?_ ?_ _ _ ⟨xs, [], rfl, rfl, by simp, fun _ h => h, by simp⟩
  · rintro acc ⟨zs, ys, e1, e2, e3, e4, e5⟩
    have : zs = [] := by simpa using e1.symm
    subst this e2
    exact h0 ys (by simpa using e3) e5
  · rintro d ds acc ⟨zs, ys, e1, e2, e3, e4, e5⟩ k hk
    cases zs with
    | nil => cases e1
    | cons z zs =>
      cases e1
      subst e2
      refine stT_mono (fun ρ2 h => show wCond G .nil ρ2 _ from (show wIf true _ _ from wIf_tt h)) (h1 z (e4 z List.mem_cons_self) (fun y => k (ys.map g ++ [y])) fun y hy => ?_)
      refine hk _ ⟨zs, ys ++ [y], rfl, by simp, by simp at e3 ⊢; omega, fun u hu => e4 u (List.mem_cons_of_mem _ hu), fun u hu => ?_⟩
      rcases List.mem_append.mp hu with h | h
      · exact e5 u h
      · rw [List.mem_singleton.mp h]; exact hy
def sp_law_wind : DSp := fun ds Q X => ∃ (ns : List Int) (w : Int), ds = [.list (ns.map .int), .int w] ∧ ∀ vs : List Vec, vs.length = ns.length → (∀ v ∈ vs, VB 400 v) → Q (.d (windD vs))
theorem p_law_wind {G : Nat → DSp} (g2 : G 2 = sp_law_stir) (g36 : G 36 = sp_law_vector) : FnW G 9 2 m_law_wind sp_law_wind := by
  intro ds Q X ⟨ns, wy, e, q⟩
  subst e
  refine ⟨rfl, ?_⟩
  ((conv => whnf); repeat' (first | (refine gC g2 ⟨_, _, 10, rfl, by decide, by decide, fun z hz bz => ?_⟩; conv => whnf) | (refine wIf_tt ?_; conv => whnf) | (refine wIf_ff ?_; conv => whnf) | (refine wIf.mk (fun hif => (have hif := of_decide_eq_true hif; ?_)) (fun hif => (have hif := of_decide_eq_false hif; ?_)) <;> (conv => whnf)) | (refine wIf_not ?_) | (refine ⟨(by decide : (_ : Int) ≠ 0), fun w _ hw => ?_⟩; replace hw := hw (by decide); conv => whnf) | (refine ⟨(by decide : (_ : Int) ≠ 0), div_lit (by decide), fun w _ hw => ?_⟩; replace hw := hw (by decide); conv => whnf) | (refine eq_rD ?_; conv => whnf) | (refine eq_ts ?_; conv => whnf) | (refine ne_ts ?_; conv => whnf) | (refine ne_rD ?_; conv => whnf) | (refine eq_vD ?_; conv => whnf) | (refine ne_vD ?_; conv => whnf) | (refine ⟨isi_ok rfl, ?_⟩; conv => whnf) | (apply wMulS.mk; (first | exact mul_l (by decide) (by decide) | exact mul_r (by decide) (by decide) | exact mul_ok (by l_ints) (by l_ints) (by decide)); conv => whnf) | (refine ⟨⟨by decide, by decide, by decide⟩, ?_⟩; conv => whnf) | (refine ⟨⟨by decide, by decide, by omega⟩, ?_⟩; conv => whnf) | (refine ⟨small_sz (Nat.le_of_ble_eq_true rfl), ?_⟩; conv => whnf) | fail))
  obtain ⟨size, e1, hs⟩ := pick5 (i := w) (a := 1) (b := 3) (c := 12) (d := 2) (e := 10 ^ (9 : Int).toNat) (by omega) (by omega)
  have hp : (10 : Int) ^ (9 : Int).toNat = 10 ^ 9 := rfl
  have hs1 : 1 ≤ size ∧ size ≤ 10 ^ 9 := by omega
  rw [e1]
  ((conv => whnf); repeat' (first | (refine wIf_tt ?_; conv => whnf) | (refine wIf_ff ?_; conv => whnf) | (refine wIf.mk (fun hif => (have hif := of_decide_eq_true hif; ?_)) (fun hif => (have hif := of_decide_eq_false hif; ?_)) <;> (conv => whnf)) | (refine wIf_not ?_) | (refine ⟨(by decide : (_ : Int) ≠ 0), fun w _ hw => ?_⟩; replace hw := hw (by decide); conv => whnf) | (refine ⟨(by decide : (_ : Int) ≠ 0), div_lit (by decide), fun w _ hw => ?_⟩; replace hw := hw (by decide); conv => whnf) | (refine eq_rD ?_; conv => whnf) | (refine eq_ts ?_; conv => whnf) | (refine ne_ts ?_; conv => whnf) | (refine ne_rD ?_; conv => whnf) | (refine eq_vD ?_; conv => whnf) | (refine ne_vD ?_; conv => whnf) | (refine ⟨isi_ok rfl, ?_⟩; conv => whnf) | (apply wMulS.mk; (first | exact mul_l (by decide) (by decide) | exact mul_r (by decide) (by decide) | exact mul_ok (by l_ints) (by l_ints) (by decide)); conv => whnf) | (refine ⟨⟨by decide, by decide, by decide⟩, ?_⟩; conv => whnf) | (refine ⟨⟨by decide, by decide, by omega⟩, ?_⟩; conv => whnf) | (refine ⟨small_sz (Nat.le_of_ble_eq_true rfl), ?_⟩; conv => whnf) | fail))
  have hp2 : (10 : Int) ^ (60 : Int).toNat = 10 ^ 60 := rfl
  obtain ⟨t, e2, ht⟩ := pick2 (i := if decide (w = 1) = true then 1 else 0) (a := 1) (b := 10 ^ (60 : Int).toNat + 7) (by split <;> omega) (by split <;> omega)
  have bt : Bd 210 t := bd210 (by omega) (by omega)
  rw [e2]
  conv => whnf
  refine lc_each (t := .nm 7) PyData.int vD (VB 100) ns (fun x _ k hk => ?_) fun vs hl hv => ?_
  · ((conv => whnf); repeat' (first | (refine gC g36 ⟨_, _, _, _, _, rfl, by omega, by omega, by omega, by omega, by omega, by omega, fun v hv => ?_⟩; conv => whnf) | (refine wIf_tt ?_; conv => whnf) | (refine wIf_ff ?_; conv => whnf) | (refine wIf.mk (fun hif => (have hif := of_decide_eq_true hif; ?_)) (fun hif => (have hif := of_decide_eq_false hif; ?_)) <;> (conv => whnf)) | (refine wIf_not ?_) | (refine ⟨(by decide : (_ : Int) ≠ 0), fun w _ hw => ?_⟩; replace hw := hw (by decide); conv => whnf) | (refine ⟨(by decide : (_ : Int) ≠ 0), div_lit (by decide), fun w _ hw => ?_⟩; replace hw := hw (by decide); conv => whnf) | (refine eq_rD ?_; conv => whnf) | (refine eq_ts ?_; conv => whnf) | (refine ne_ts ?_; conv => whnf) | (refine ne_rD ?_; conv => whnf) | (refine eq_vD ?_; conv => whnf) | (refine ne_vD ?_; conv => whnf) | (refine ⟨isi_ok rfl, ?_⟩; conv => whnf) | (apply wMulS.mk; (first | exact mul_l (by decide) (by decide) | exact mul_r (by decide) (by decide) | exact mul_ok (by l_ints) (by l_ints) (by decide)); conv => whnf) | (refine ⟨⟨by decide, by decide, by decide⟩, ?_⟩; conv => whnf) | (refine ⟨⟨by decide, by decide, by omega⟩, ?_⟩; conv => whnf) | (refine ⟨small_sz (Nat.le_of_ble_eq_true rfl), ?_⟩; conv => whnf) | fail))
    exact hk _ hv
  conv => whnf
  refine lc_each (t := .nm 8) vD vD (VB 400) vs (fun v hm k hk => ?_) fun us hl2 hv2 => ?_
  · conv => whnf
    refine ⟨mul_ok (hv v hm).1 bt (by decide), ?_⟩
    conv => whnf
    refine ⟨mul_ok (hv v hm).2 bt (by decide), ?_⟩
    ((conv => whnf); repeat' (first | (refine wIf_tt ?_; conv => whnf) | (refine wIf_ff ?_; conv => whnf) | (refine wIf.mk (fun hif => (have hif := of_decide_eq_true hif; ?_)) (fun hif => (have hif := of_decide_eq_false hif; ?_)) <;> (conv => whnf)) | (refine wIf_not ?_) | (refine ⟨(by decide : (_ : Int) ≠ 0), fun w _ hw => ?_⟩; replace hw := hw (by decide); conv => whnf) | (refine ⟨(by decide : (_ : Int) ≠ 0), div_lit (by decide), fun w _ hw => ?_⟩; replace hw := hw (by decide); conv => whnf) | (refine eq_rD ?_; conv => whnf) | (refine eq_ts ?_; conv => whnf) | (refine ne_ts ?_; conv => whnf) | (refine ne_rD ?_; conv => whnf) | (refine eq_vD ?_; conv => whnf) | (refine ne_vD ?_; conv => whnf) | (refine ⟨isi_ok rfl, ?_⟩; conv => whnf) | (apply wMulS.mk; (first | exact mul_l (by decide) (by decide) | exact mul_r (by decide) (by decide) | exact mul_ok (by l_ints) (by l_ints) (by decide)); conv => whnf) | (refine ⟨⟨by decide, by decide, by decide⟩, ?_⟩; conv => whnf) | (refine ⟨⟨by decide, by decide, by omega⟩, ?_⟩; conv => whnf) | (refine ⟨small_sz (Nat.le_of_ble_eq_true rfl), ?_⟩; conv => whnf) | fail))
    exact hk (_, _) ⟨((hv v hm).1.mul bt).mono (by decide), ((hv v hm).2.mul bt).mono (by decide)⟩
  conv => whnf
  exact q us (by omega) hv2
def sp_law_whole : DSp := fun ds Q X => ∃ i : Int, ds = [.int i, .int i] ∧ Q (.d (.bool true))
theorem p_law_whole {G : Nat → DSp} : FnW G 2 2 m_law_whole sp_law_whole := by
  intro ds Q X ⟨i, e, q⟩
  subst e
  refine ⟨rfl, ?_⟩
  ((conv => whnf); repeat' (first | (refine wIf_tt ?_; conv => whnf) | (refine wIf_ff ?_; conv => whnf) | (refine wIf.mk (fun hif => (have hif := of_decide_eq_true hif; ?_)) (fun hif => (have hif := of_decide_eq_false hif; ?_)) <;> (conv => whnf)) | (refine wIf_not ?_) | (refine ⟨(by decide : (_ : Int) ≠ 0), fun w _ hw => ?_⟩; replace hw := hw (by decide); conv => whnf) | (refine ⟨(by decide : (_ : Int) ≠ 0), div_lit (by decide), fun w _ hw => ?_⟩; replace hw := hw (by decide); conv => whnf) | (refine eq_rD ?_; conv => whnf) | (refine eq_ts ?_; conv => whnf) | (refine ne_ts ?_; conv => whnf) | (refine ne_rD ?_; conv => whnf) | (refine eq_vD ?_; conv => whnf) | (refine ne_vD ?_; conv => whnf) | (refine ⟨isi_ok rfl, ?_⟩; conv => whnf) | (apply wMulS.mk; (first | exact mul_l (by decide) (by decide) | exact mul_r (by decide) (by decide) | exact mul_ok (by l_ints) (by l_ints) (by decide)); conv => whnf) | (refine ⟨⟨by decide, by decide, by decide⟩, ?_⟩; conv => whnf) | (refine ⟨⟨by decide, by decide, by omega⟩, ?_⟩; conv => whnf) | (refine ⟨small_sz (Nat.le_of_ble_eq_true rfl), ?_⟩; conv => whnf) | fail))
  rw [decide_eq_true rfl]
  exact q
def sp_law_pair_2 : DSp := fun ds Q X => ∃ (u v : Vec), ds = [vD u, vD v] ∧ VB 400 u ∧ VB 400 v ∧ Q (.d (.bool true))
theorem p_law_pair_2 {G : Nat → DSp} (g38 : G 38 = sp_law_whole) (g32 : G 32 = sp_turn_of) (g33 : G 33 = sp_dot_of) : FnW G 2 2 m_law_pair_2 sp_law_pair_2 := by
  intro ds Q X ⟨u, v, e, hu, hv, q⟩
  subst e
  refine ⟨rfl, ?_⟩
  obtain ⟨u1, u2⟩ := id hu
  obtain ⟨v1, v2⟩ := id hv
  ((conv => whnf); repeat' (first | (refine gC g32 ⟨u, v, 400, 400, rfl, hu, hv, by decide, ?_⟩; conv => whnf) | (refine gC g33 ⟨u, v, 400, 400, rfl, hu, hv, by decide, ?_⟩; conv => whnf) | (refine gC g38 ⟨_, rfl, ?_⟩; conv => whnf) | (refine wIf_tt ?_; conv => whnf) | (refine wIf_ff ?_; conv => whnf) | (refine wIf.mk (fun hif => (have hif := of_decide_eq_true hif; ?_)) (fun hif => (have hif := of_decide_eq_false hif; ?_)) <;> (conv => whnf)) | (refine wIf_not ?_) | (refine ⟨(by decide : (_ : Int) ≠ 0), fun w _ hw => ?_⟩; replace hw := hw (by decide); conv => whnf) | (refine ⟨(by decide : (_ : Int) ≠ 0), div_lit (by decide), fun w _ hw => ?_⟩; replace hw := hw (by decide); conv => whnf) | (refine eq_rD ?_; conv => whnf) | (refine eq_ts ?_; conv => whnf) | (refine ne_ts ?_; conv => whnf) | (refine ne_rD ?_; conv => whnf) | (refine eq_vD ?_; conv => whnf) | (refine ne_vD ?_; conv => whnf) | (refine ⟨isi_ok rfl, ?_⟩; conv => whnf) | (apply wMulS.mk; (first | exact mul_l (by decide) (by decide) | exact mul_r (by decide) (by decide) | exact mul_ok (by l_ints) (by l_ints) (by decide)); conv => whnf) | (refine ⟨⟨by decide, by decide, by decide⟩, ?_⟩; conv => whnf) | (refine ⟨⟨by decide, by decide, by omega⟩, ?_⟩; conv => whnf) | (refine ⟨small_sz (Nat.le_of_ble_eq_true rfl), ?_⟩; conv => whnf) | fail))
  exact q
def sp_law_5 : DSp := fun ds Q X => ∃ ns : List Int, ds = [.list (ns.map .int)] ∧ ns.length ≤ 63 ∧ Q (.d (.bool true))
theorem p_law_5 {G : Nat → DSp} (g37 : G 37 = sp_law_wind) (g35 : G 35 = sp_law_cell) (g2 : G 2 = sp_law_stir) (g39 : G 39 = sp_law_pair_2) (g38 : G 38 = sp_law_whole) (g34 : G 34 = sp_farthest) : FnW G 10 1 m_law_5 sp_law_5 := by
  intro ds Q X ⟨ns, e, hn, q⟩
  subst e
  refine ⟨rfl, ?_⟩
  ((conv => whnf); repeat' (first | (refine wIf_tt ?_; conv => whnf) | (refine wIf_ff ?_; conv => whnf) | (refine wIf.mk (fun hif => (have hif := of_decide_eq_true hif; ?_)) (fun hif => (have hif := of_decide_eq_false hif; ?_)) <;> (conv => whnf)) | (refine wIf_not ?_) | (refine ⟨(by decide : (_ : Int) ≠ 0), fun w _ hw => ?_⟩; replace hw := hw (by decide); conv => whnf) | (refine ⟨(by decide : (_ : Int) ≠ 0), div_lit (by decide), fun w _ hw => ?_⟩; replace hw := hw (by decide); conv => whnf) | (refine eq_rD ?_; conv => whnf) | (refine eq_ts ?_; conv => whnf) | (refine ne_ts ?_; conv => whnf) | (refine ne_rD ?_; conv => whnf) | (refine eq_vD ?_; conv => whnf) | (refine ne_vD ?_; conv => whnf) | (refine ⟨isi_ok rfl, ?_⟩; conv => whnf) | (apply wMulS.mk; (first | exact mul_l (by decide) (by decide) | exact mul_r (by decide) (by decide) | exact mul_ok (by l_ints) (by l_ints) (by decide)); conv => whnf) | (refine ⟨⟨by decide, by decide, by decide⟩, ?_⟩; conv => whnf) | (refine ⟨⟨by decide, by decide, by omega⟩, ?_⟩; conv => whnf) | (refine ⟨small_sz (Nat.le_of_ble_eq_true rfl), ?_⟩; conv => whnf) | fail))
  refine ⟨small_sz (by simp; omega), ?_⟩
  conv => whnf
  refine gC g35 ⟨ns, 0, rfl, fun c => ?_⟩
  conv => whnf
  have ec : cutD (ns.map PyData.int ++ [.int 0]) none (some 200) = ((ns ++ [0]).take 200).map .int := by
    rw [List.map_take, List.map_append]
    exact cut_to _ 200
  rw [ec]
  refine gC g37 ⟨_, c, rfl, fun vs hl hv => ?_⟩
  have hl : 1 ≤ vs.length ∧ vs.length ≤ 64 := by simp at hl; omega
  conv => whnf
  have ev : cutD (vs.map vD) none (some 20) = (vs.take 20).map vD := by rw [List.map_take]; exact cut_to _ 20
  rw [ev]
  refine lc_ind (fun ds acc => ∃ zs bs : List Vec, ds = zs.map vD ∧ acc = bs.map vD ∧ bs.length + zs.length ≤ 20 ∧ (∀ z ∈ zs, z ∈ vs) ∧ ∀ y ∈ bs, VB 400 y) ?_ ?_ _ _ ⟨vs.take 20, [], rfl, rfl, by simp; omega, fun z hz => List.mem_of_mem_take hz, by simp⟩
  case refine_2 =>
    rintro d ds acc ⟨zs, bs, e1, e2, e3, e4, e5⟩ k hk
    cases zs with
    | nil => cases e1
    | cons z zs =>
      cases e1
      subst e2
      have hz := e4 z List.mem_cons_self
      ((conv => whnf); repeat' (first | (refine wIf_tt ?_; conv => whnf) | (refine wIf_ff ?_; conv => whnf) | (refine wIf.mk (fun hif => (have hif := of_decide_eq_true hif; ?_)) (fun hif => (have hif := of_decide_eq_false hif; ?_)) <;> (conv => whnf)) | (refine wIf_not ?_) | (refine ⟨(by decide : (_ : Int) ≠ 0), fun w _ hw => ?_⟩; replace hw := hw (by decide); conv => whnf) | (refine ⟨(by decide : (_ : Int) ≠ 0), div_lit (by decide), fun w _ hw => ?_⟩; replace hw := hw (by decide); conv => whnf) | (refine eq_rD ?_; conv => whnf) | (refine eq_ts ?_; conv => whnf) | (refine ne_ts ?_; conv => whnf) | (refine ne_rD ?_; conv => whnf) | (refine eq_vD ?_; conv => whnf) | (refine ne_vD ?_; conv => whnf) | (refine ⟨isi_ok rfl, ?_⟩; conv => whnf) | (apply wMulS.mk; (first | exact mul_l (by decide) (by decide) | exact mul_r (by decide) (by decide) | exact mul_ok (by l_ints) (by l_ints) (by decide)); conv => whnf) | (refine ⟨⟨by decide, by decide, by decide⟩, ?_⟩; conv => whnf) | (refine ⟨⟨by decide, by decide, by omega⟩, ?_⟩; conv => whnf) | (refine ⟨small_sz (Nat.le_of_ble_eq_true rfl), ?_⟩; conv => whnf) | fail))
      · exact hk _ ⟨zs, bs, rfl, rfl, by simp at e3; omega, fun u hu => e4 u (List.mem_cons_of_mem _ hu), e5⟩
      · refine hk _ ⟨zs, bs ++ [z], rfl, by simp, by simp at e3 ⊢; omega, fun u hu => e4 u (List.mem_cons_of_mem _ hu), fun u hu => ?_⟩
        rcases List.mem_append.mp hu with h | h
        · exact e5 u h
        · rw [List.mem_singleton.mp h]; exact hv z hz
  rintro acc ⟨zs, bs, e1, e2, e3, e4, e5⟩
  subst e2
  ((conv => whnf); repeat' (first | (refine wIf_tt ?_; conv => whnf) | (refine wIf_ff ?_; conv => whnf) | (refine wIf.mk (fun hif => (have hif := of_decide_eq_true hif; ?_)) (fun hif => (have hif := of_decide_eq_false hif; ?_)) <;> (conv => whnf)) | (refine wIf_not ?_) | (refine ⟨(by decide : (_ : Int) ≠ 0), fun w _ hw => ?_⟩; replace hw := hw (by decide); conv => whnf) | (refine ⟨(by decide : (_ : Int) ≠ 0), div_lit (by decide), fun w _ hw => ?_⟩; replace hw := hw (by decide); conv => whnf) | (refine eq_rD ?_; conv => whnf) | (refine eq_ts ?_; conv => whnf) | (refine ne_ts ?_; conv => whnf) | (refine ne_rD ?_; conv => whnf) | (refine eq_vD ?_; conv => whnf) | (refine ne_vD ?_; conv => whnf) | (refine ⟨isi_ok rfl, ?_⟩; conv => whnf) | (apply wMulS.mk; (first | exact mul_l (by decide) (by decide) | exact mul_r (by decide) (by decide) | exact mul_ok (by l_ints) (by l_ints) (by decide)); conv => whnf) | (refine ⟨⟨by decide, by decide, by decide⟩, ?_⟩; conv => whnf) | (refine ⟨⟨by decide, by decide, by omega⟩, ?_⟩; conv => whnf) | (refine ⟨small_sz (Nat.le_of_ble_eq_true rfl), ?_⟩; conv => whnf) | fail))
  refine ⟨rfl, ?_⟩
  have es : cutD (ns.map PyData.int) none (some 20) = (ns.take 20).map .int := by rw [List.map_take]; exact cut_to _ 20
  rw [es]
  refine forLoop_ind (fun ds ρ => ∃ (zs : List Int) (bs : List Vec) (x y : Option DL.R), ds = zs.map .int ∧ bs.length + zs.length ≤ 40 ∧ (∀ y ∈ bs, VB 400 y) ∧ ρ = [some (.d (.list (ns.map .int))), some (.d (windD vs)), some (.l (bs.map vD) true), none, x, y, none, none, none, none]) ?_ ?_ _ _ ⟨ns.take 20, bs, none, none, rfl, by simp; omega, e5, rfl⟩
  case refine_2 =>
    rintro d ds ρ ⟨zs, bs, x, y, e1, e2, e5, rfl⟩ nx hnx
    cases zs with
    | nil => cases e1
    | cons z zs =>
      cases e1
      ((conv => whnf); repeat' (first | (refine gC g2 ⟨_, _, 10, rfl, by decide, by decide, fun z hz bz => ?_⟩; conv => whnf) | (refine wIf_tt ?_; conv => whnf) | (refine wIf_ff ?_; conv => whnf) | (refine wIf.mk (fun hif => (have hif := of_decide_eq_true hif; ?_)) (fun hif => (have hif := of_decide_eq_false hif; ?_)) <;> (conv => whnf)) | (refine wIf_not ?_) | (refine ⟨(by decide : (_ : Int) ≠ 0), fun w _ hw => ?_⟩; replace hw := hw (by decide); conv => whnf) | (refine ⟨(by decide : (_ : Int) ≠ 0), div_lit (by decide), fun w _ hw => ?_⟩; replace hw := hw (by decide); conv => whnf) | (refine eq_rD ?_; conv => whnf) | (refine eq_ts ?_; conv => whnf) | (refine ne_ts ?_; conv => whnf) | (refine ne_rD ?_; conv => whnf) | (refine eq_vD ?_; conv => whnf) | (refine ne_vD ?_; conv => whnf) | (refine ⟨isi_ok rfl, ?_⟩; conv => whnf) | (apply wMulS.mk; (first | exact mul_l (by decide) (by decide) | exact mul_r (by decide) (by decide) | exact mul_ok (by l_ints) (by l_ints) (by decide)); conv => whnf) | (refine ⟨⟨by decide, by decide, by decide⟩, ?_⟩; conv => whnf) | (refine ⟨⟨by decide, by decide, by omega⟩, ?_⟩; conv => whnf) | (refine ⟨small_sz (Nat.le_of_ble_eq_true rfl), ?_⟩; conv => whnf) | fail))
      refine ⟨by simp at e2 ⊢; exact small_lt (by omega), ?_⟩
      simp only [show (10 : Int) ^ (12 : Int).toNat = 1000000000000 from rfl] at *
      refine hnx _ ⟨zs, bs ++ [(_, _)], _, _, rfl, by simp at e2 ⊢; omega, fun u hu => ?_, by rw [List.map_append]; rfl⟩
      rcases List.mem_append.mp hu with h | h
      · exact e5 u h
      · rw [List.mem_singleton.mp h]; exact ⟨Bd.mono (by l_ints) (by decide), Bd.mono (by l_ints) (by decide)⟩
  rintro ρ ⟨zs, bs, x, y, e1, e2, e5, rfl⟩
  conv => whnf
  have hsz : (vs.length : Int) ≤ sizeLine := by have : (100 : Nat) ≤ sizeLine := by decide
                                                omega
  refine ⟨by simpa using hsz, by simp, rfl, ?_⟩
  refine rng_ind (fun i ρ => ∃ a : Option DL.R, ρ = [some (.d (.list (ns.map .int))), some (.d (windD vs)), some (.d (.list (bs.map vD))), none, x, y, a, none, none, none]) _ ?_ ?_ _ ⟨none, rfl⟩
  case refine_2 =>
    rintro i ρ hi ⟨a, rfl⟩ nx hnx
    simp at hi
    obtain ⟨v, hv1, a1⟩ := atI_maps (f := vD) (xs := vs) (i := (i : Int) - 1) (by omega) (by omega)
    obtain ⟨u, hu1, a2⟩ := atI_maps (f := vD) (xs := vs) (i := (i : Int)) (by omega) (by omega)
    ((conv => whnf); repeat' (first | (rw [a1]; conv => whnf) | (rw [a2]; conv => whnf) | (refine gC g39 ⟨_, _, rfl, hv _ hv1, hv _ hu1, ?_⟩; conv => whnf) | (refine gC g39 ⟨_, _, rfl, hv _ hu1, hv _ hu1, ?_⟩; conv => whnf) | (refine wIf_tt ?_; conv => whnf) | (refine wIf_ff ?_; conv => whnf) | (refine wIf.mk (fun hif => (have hif := of_decide_eq_true hif; ?_)) (fun hif => (have hif := of_decide_eq_false hif; ?_)) <;> (conv => whnf)) | (refine wIf_not ?_) | (refine ⟨(by decide : (_ : Int) ≠ 0), fun w _ hw => ?_⟩; replace hw := hw (by decide); conv => whnf) | (refine ⟨(by decide : (_ : Int) ≠ 0), div_lit (by decide), fun w _ hw => ?_⟩; replace hw := hw (by decide); conv => whnf) | (refine eq_rD ?_; conv => whnf) | (refine eq_ts ?_; conv => whnf) | (refine ne_ts ?_; conv => whnf) | (refine ne_rD ?_; conv => whnf) | (refine eq_vD ?_; conv => whnf) | (refine ne_vD ?_; conv => whnf) | (refine ⟨isi_ok rfl, ?_⟩; conv => whnf) | (apply wMulS.mk; (first | exact mul_l (by decide) (by decide) | exact mul_r (by decide) (by decide) | exact mul_ok (by l_ints) (by l_ints) (by decide)); conv => whnf) | (refine ⟨⟨by decide, by decide, by decide⟩, ?_⟩; conv => whnf) | (refine ⟨⟨by decide, by decide, by omega⟩, ?_⟩; conv => whnf) | (refine ⟨small_sz (Nat.le_of_ble_eq_true rfl), ?_⟩; conv => whnf) | fail))
    exact hnx _ ⟨_, rfl⟩
  rintro ρ ⟨a, rfl⟩
  conv => whnf
  refine ⟨rfl, ?_⟩
  refine forLoop_ind (fun ds ρ => ∃ (zs : List Vec) (b c d e : Option DL.R), ds = zs.map vD ∧ (∀ y ∈ zs, VB 400 y) ∧ ρ = [some (.d (.list (ns.map .int))), some (.d (windD vs)), some (.d (.list (bs.map vD))), b, x, y, a, c, d, e]) ?_ ?_ _ _ ⟨bs, none, none, none, none, rfl, e5, rfl⟩
  · rintro ρ ⟨zs, b, c, d, e, e1, e2, rfl⟩
    conv => whnf
    exact q
  rintro d ds ρ ⟨zs, b, c, d', e, e1, e6, rfl⟩ nx hnx
  cases zs with
  | nil => cases e1
  | cons z zs =>
    cases e1
    have hz := e6 z List.mem_cons_self
    conv => whnf
    refine ⟨rfl, ?_⟩
    refine forLoop_ind (fun ds ρ => ∃ (ps qs : List Vec) (b e : Option DL.R) (o : D), ds = qs.map vD ∧ ps ++ qs = vs ∧ ((ps = [] ∧ o = .none) ∨ ∃ m, o = .int m ∧ IsFar ps z m) ∧ ρ = [some (.d (.list (ns.map .int))), some (.d (windD vs)), some (.d (.list (bs.map vD))), b, x, y, a, some (.d (vD z)), some (.d o), e]) ?_ ?_ _ _ ⟨[], vs, _, _, _, rfl, rfl, .inl ⟨rfl, rfl⟩, rfl⟩
    · rintro ρ ⟨ps, qs, b, e, o, e1, e2, e3, rfl⟩
      have : qs = [] := by simpa using e1.symm
      subst this
      rw [List.append_nil] at e2
      subst e2
      rcases e3 with ⟨h, _⟩ | ⟨m, rfl, hm⟩
      · subst h; simp at hl
      · conv => whnf
        refine gC g34 ⟨ps, z, 400, 400, rfl, by intro h; subst h; simp at hl, hv, hz, by decide, fun f hf => ?_⟩
        have := hf.uniq hm
        subst this
        ((conv => whnf); repeat' (first | (refine gC g38 ⟨_, rfl, ?_⟩; conv => whnf) | (refine wIf_tt ?_; conv => whnf) | (refine wIf_ff ?_; conv => whnf) | (refine wIf.mk (fun hif => (have hif := of_decide_eq_true hif; ?_)) (fun hif => (have hif := of_decide_eq_false hif; ?_)) <;> (conv => whnf)) | (refine wIf_not ?_) | (refine ⟨(by decide : (_ : Int) ≠ 0), fun w _ hw => ?_⟩; replace hw := hw (by decide); conv => whnf) | (refine ⟨(by decide : (_ : Int) ≠ 0), div_lit (by decide), fun w _ hw => ?_⟩; replace hw := hw (by decide); conv => whnf) | (refine eq_rD ?_; conv => whnf) | (refine eq_ts ?_; conv => whnf) | (refine ne_ts ?_; conv => whnf) | (refine ne_rD ?_; conv => whnf) | (refine eq_vD ?_; conv => whnf) | (refine ne_vD ?_; conv => whnf) | (refine ⟨isi_ok rfl, ?_⟩; conv => whnf) | (apply wMulS.mk; (first | exact mul_l (by decide) (by decide) | exact mul_r (by decide) (by decide) | exact mul_ok (by l_ints) (by l_ints) (by decide)); conv => whnf) | (refine ⟨⟨by decide, by decide, by decide⟩, ?_⟩; conv => whnf) | (refine ⟨⟨by decide, by decide, by omega⟩, ?_⟩; conv => whnf) | (refine ⟨small_sz (Nat.le_of_ble_eq_true rfl), ?_⟩; conv => whnf) | fail))
        exact hnx _ ⟨zs, _, _, _, _, rfl, fun u hu => e6 u (List.mem_cons_of_mem _ hu), rfl⟩
    · rintro d ds ρ ⟨ps, qs, b, e, o, e1, e2, e3, rfl⟩ nx2 hnx2
      cases qs with
      | nil => cases e1
      | cons v qs =>
        cases e1
        have hvv := hv v (by rw [← e2]; simp)
        have far1 : ∀ m, IsFar ps z m → ¬ m < dot v z → IsFar (ps ++ [v]) z m := fun m hm h => ⟨by obtain ⟨u, h1, h2⟩ := hm.mem; exact ⟨u, List.mem_append_left _ h1, h2⟩, fun u hu => by
          rcases List.mem_append.mp hu with h1 | h1
          · exact hm.le u h1
          · rw [List.mem_singleton.mp h1]; omega⟩
        have far2 : (∀ u ∈ ps, dot u z ≤ dot v z) → IsFar (ps ++ [v]) z (dot v z) := fun h => ⟨⟨v, by simp, rfl⟩, fun u hu => by
          rcases List.mem_append.mp hu with h1 | h1
          · exact h u h1
          · rw [List.mem_singleton.mp h1]; exact Int.le_refl _⟩
        rcases e3 with ⟨h, rfl⟩ | ⟨m, rfl, hm⟩
        · subst h
          conv => whnf
          refine ⟨mul_ok hvv.1 hz.1 (by decide), ?_⟩
          conv => whnf
          refine ⟨mul_ok hvv.2 hz.2 (by decide), ?_⟩
          ((conv => whnf); repeat' (first | (refine wIf_tt ?_; conv => whnf) | (refine wIf_ff ?_; conv => whnf) | (refine wIf.mk (fun hif => (have hif := of_decide_eq_true hif; ?_)) (fun hif => (have hif := of_decide_eq_false hif; ?_)) <;> (conv => whnf)) | (refine wIf_not ?_) | (refine ⟨(by decide : (_ : Int) ≠ 0), fun w _ hw => ?_⟩; replace hw := hw (by decide); conv => whnf) | (refine ⟨(by decide : (_ : Int) ≠ 0), div_lit (by decide), fun w _ hw => ?_⟩; replace hw := hw (by decide); conv => whnf) | (refine eq_rD ?_; conv => whnf) | (refine eq_ts ?_; conv => whnf) | (refine ne_ts ?_; conv => whnf) | (refine ne_rD ?_; conv => whnf) | (refine eq_vD ?_; conv => whnf) | (refine ne_vD ?_; conv => whnf) | (refine ⟨isi_ok rfl, ?_⟩; conv => whnf) | (apply wMulS.mk; (first | exact mul_l (by decide) (by decide) | exact mul_r (by decide) (by decide) | exact mul_ok (by l_ints) (by l_ints) (by decide)); conv => whnf) | (refine ⟨⟨by decide, by decide, by decide⟩, ?_⟩; conv => whnf) | (refine ⟨⟨by decide, by decide, by omega⟩, ?_⟩; conv => whnf) | (refine ⟨small_sz (Nat.le_of_ble_eq_true rfl), ?_⟩; conv => whnf) | fail))
          exact hnx2 _ ⟨[v], qs, _, _, _, rfl, e2, .inr ⟨_, rfl, far2 (by simp)⟩, rfl⟩
        · conv => whnf
          refine ⟨mul_ok hvv.1 hz.1 (by decide), ?_⟩
          conv => whnf
          refine ⟨mul_ok hvv.2 hz.2 (by decide), ?_⟩
          ((conv => whnf); repeat' (first | (refine wIf_tt ?_; conv => whnf) | (refine wIf_ff ?_; conv => whnf) | (refine wIf.mk (fun hif => (have hif := of_decide_eq_true hif; ?_)) (fun hif => (have hif := of_decide_eq_false hif; ?_)) <;> (conv => whnf)) | (refine wIf_not ?_) | (refine ⟨(by decide : (_ : Int) ≠ 0), fun w _ hw => ?_⟩; replace hw := hw (by decide); conv => whnf) | (refine ⟨(by decide : (_ : Int) ≠ 0), div_lit (by decide), fun w _ hw => ?_⟩; replace hw := hw (by decide); conv => whnf) | (refine eq_rD ?_; conv => whnf) | (refine eq_ts ?_; conv => whnf) | (refine ne_ts ?_; conv => whnf) | (refine ne_rD ?_; conv => whnf) | (refine eq_vD ?_; conv => whnf) | (refine ne_vD ?_; conv => whnf) | (refine ⟨isi_ok rfl, ?_⟩; conv => whnf) | (apply wMulS.mk; (first | exact mul_l (by decide) (by decide) | exact mul_r (by decide) (by decide) | exact mul_ok (by l_ints) (by l_ints) (by decide)); conv => whnf) | (refine ⟨⟨by decide, by decide, by decide⟩, ?_⟩; conv => whnf) | (refine ⟨⟨by decide, by decide, by omega⟩, ?_⟩; conv => whnf) | (refine ⟨small_sz (Nat.le_of_ble_eq_true rfl), ?_⟩; conv => whnf) | fail))
          · have hif : m < dot v z := hif
            exact hnx2 _ ⟨ps ++ [v], qs, _, _, _, rfl, by simpa using e2, .inr ⟨_, rfl, far2 fun u hu => by have := hm.le u hu; omega⟩, rfl⟩
          · exact hnx2 _ ⟨ps ++ [v], qs, _, _, _, rfl, by simpa using e2, .inr ⟨_, rfl, far1 m hm hif⟩, rfl⟩
end DL
end
section
namespace DL
def m_law_cell_at : Ss := (.cons (.ifs (.cmp .Lt (.v 1) (.bi .len (.cons (.v 0) .nil))) (.cons (.ret (.ix (.v 0) (.v 1))) .nil) .nil) (.cons (.ret (.int 0)) .nil))
end DL
end
section
namespace DL
def m_law_draw : Ss := (.cons (.set 3 (.int 170141183460469231731687303715884105727)) (.cons (.set 4 (.bin .Mod (.bin .Mult (.bin .Add (.bin .Mod (.v 0) (.v 3)) (.bin .Mult (.bin .Add (.v 1) (.int 3)) (.int 1000000007))) (.int 105172331949523456789012345678901234567)) (.v 3))) (.cons (.set 4 (.bin .Mod (.bin .Mult (.v 4) (.v 4)) (.v 3))) (.cons (.ret (.bin .Mod (.bin .FloorDiv (.bin .Mod (.bin .Mult (.bin .Add (.v 4) (.v 1)) (.int 83492791123456789012345678901234567891)) (.v 3)) (.int 7)) (.v 2))) .nil))))
end DL
end
section
namespace DL
def m_law_vector_2 : Ss := (.cons (.ifs (.notN (.v 2)) (.cons (.set 3 (.bin .Sub (.call 43 (.cons (.v 0) (.cons (.int 2) (.cons (.int 7) .nil)))) (.int 3))) (.cons (.ret (.tup (.cons (.bin .Mult (.ix (.v 2) (.int 0)) (.v 3)) (.cons (.bin .Mult (.ix (.v 2) (.int 1)) (.v 3)) .nil)))) .nil)) .nil) (.cons (.ret (.tup (.cons (.bin .Sub (.call 43 (.cons (.v 0) (.cons (.int 2) (.cons (.bin .Add (.bin .Mult (.int 2) (.v 1)) (.int 1)) .nil)))) (.v 1)) (.cons (.bin .Sub (.call 43 (.cons (.v 0) (.cons (.int 3) (.cons (.bin .Add (.bin .Mult (.int 2) (.v 1)) (.int 1)) .nil)))) (.v 1)) .nil)))) .nil))
end DL
end
section
namespace DL
def m_law_free_vector : Ss := (.cons (.set 2 (.bin .Add (.bin .Mult (.int 2) (.v 1)) (.int 1))) (.cons (.ret (.tup (.cons (.bin .Sub (.bin .Mod (.v 0) (.v 2)) (.v 1)) (.cons (.bin .Sub (.bin .Mod (.bin .FloorDiv (.v 0) (.v 2)) (.v 2)) (.v 1)) .nil)))) .nil))
end DL
end
section
namespace DL
def m_law_free_watches : Ss := (.cons (.set 1 (.ix (.lst (.cons (.int 3) (.cons (.int 12) (.cons (.bin .Pow (.int 10) (.int 9)) .nil)))) (.bin .Mod (.bin .FloorDiv (.ix (.v 0) (.int 0)) (.int 2)) (.int 3)))) (.cons (.set 2 (.lst .nil)) (.cons (.set 3 (.int 1)) (.cons (.whl (.and (.cmp .Lt (.v 3) (.bi .min2 (.cons (.bi .len (.cons (.v 0) .nil)) (.cons (.int 61) .nil)))) (.cmp .Lt (.bi .len (.cons (.v 2) .nil)) (.int 12))) (.cons (.set 4 (.bin .Add (.int 1) (.bin .Mod (.ix (.v 0) (.v 3)) (.int 12)))) (.cons (.set 5 (.bin .FloorDiv (.ix (.v 0) (.v 3)) (.int 12))) (.cons (.set 6 (.lst (.cons (.call 45 (.cons (.v 5) (.cons (.v 1) .nil))) .nil))) (.cons (.ext 6 (.lc (.call 45 (.cons (.v 7) (.cons (.v 1) .nil))) (.nm 7) (.ex (.sl (.v 0) (.cons (.bin .Add (.v 3) (.int 1)) .nil) (.cons (.bi .min2 (.cons (.bin .Add (.v 3) (.v 4)) (.cons (.int 61) .nil))) .nil))) .nil [("cell", 7)])) (.cons (.frz 6) (.cons (.app 2 (.tup (.cons (.bi .tuple1 (.cons (.v 6) .nil)) (.cons (.call 45 (.cons (.bin .FloorDiv (.v 5) (.bin .Pow (.bin .Add (.bin .Mult (.int 2) (.v 1)) (.int 1)) (.int 2))) (.cons (.v 1) .nil))) .nil)))) (.cons (.set 3 (.bin .Add (.v 3) (.v 4))) .nil)))))))) (.cons (.frz 2) (.cons (.ret (.bi .tuple1 (.cons (.v 2) .nil))) .nil))))))
end DL
end
section
namespace DL
def m_law_watches : Ss := (.cons (.set 1 (.call 42 (.cons (.v 0) (.cons (.int 0) .nil)))) (.cons (.ifs (.cmp .Eq (.bin .Mod (.v 1) (.int 2)) (.int 1)) (.cons (.ret (.call 46 (.cons (.v 0) .nil))) .nil) .nil) (.cons (.set 2 (.ix (.lst (.cons (.int 3) (.cons (.int 3) (.cons (.int 12) (.cons (.bin .Pow (.int 10) (.int 9)) .nil))))) (.call 43 (.cons (.v 1) (.cons (.int 1) (.cons (.int 4) .nil)))))) (.cons (.set 3 .non) (.cons (.ifs (.cmp .Eq (.call 43 (.cons (.v 1) (.cons (.int 4) (.cons (.int 5) .nil)))) (.int 0)) (.cons (.set 3 (.tup (.cons (.bin .Sub (.call 43 (.cons (.v 1) (.cons (.int 5) (.cons (.int 7) .nil)))) (.int 3)) (.cons (.bin .Sub (.call 43 (.cons (.v 1) (.cons (.int 6) (.cons (.int 7) .nil)))) (.int 3)) .nil)))) .nil) .nil) (.cons (.set 4 (.ix (.lst (.cons (.int 3) (.cons (.int 3) (.cons (.int 5) (.cons (.int 12) .nil))))) (.call 43 (.cons (.v 1) (.cons (.int 8) (.cons (.int 4) .nil)))))) (.cons (.set 5 (.lst .nil)) (.cons (.set 6 (.int 1)) (.cons (.whl (.and (.cmp .Lt (.v 6) (.bi .min2 (.cons (.bi .len (.cons (.v 0) .nil)) (.cons (.int 61) .nil)))) (.cmp .Lt (.bi .len (.cons (.v 5) .nil)) (.int 12))) (.cons (.set 7 (.bin .Add (.int 1) (.call 43 (.cons (.ix (.v 0) (.v 6)) (.cons (.int 7) (.cons (.v 4) .nil)))))) (.cons (.set 8 (.lc (.call 44 (.cons (.v 9) (.cons (.v 2) (.cons (.v 3) .nil)))) (.nm 9) (.ex (.sl (.v 0) (.cons (.v 6) .nil) (.cons (.bi .min2 (.cons (.bin .Add (.v 6) (.v 7)) (.cons (.int 61) .nil))) .nil))) .nil [("cell", 9)])) (.cons (.frz 8) (.cons (.set 10 (.tup (.cons (.int 0) (.cons (.int 0) .nil)))) (.cons (.ifs (.cmp .Eq (.call 43 (.cons (.ix (.v 0) (.v 6)) (.cons (.int 9) (.cons (.int 2) .nil)))) (.int 1)) (.cons (.set 10 (.call 44 (.cons (.bin .Add (.ix (.v 0) (.v 6)) (.int 1)) (.cons (.v 2) (.cons (.v 3) .nil))))) .nil) .nil) (.cons (.app 5 (.tup (.cons (.bi .tuple1 (.cons (.v 8) .nil)) (.cons (.v 10) .nil)))) (.cons (.set 6 (.bin .Add (.v 6) (.v 7))) .nil)))))))) (.cons (.frz 5) (.cons (.ret (.bi .tuple1 (.cons (.v 5) .nil))) .nil)))))))))))
end DL
end
section
set_option maxRecDepth 100000
set_option maxHeartbeats 4000000
set_option exponentiation.threshold 100000
namespace DL
open PySem L2
local macro_rules | `(tactic| l_ints) => `(tactic| first | (assumption) | (apply Bd.neg; l_ints) | (apply Bd.mul <;> l_ints) | (exact bd40 (by omega) (by omega)) | (apply Bd.add <;> l_ints) | (apply Bd.sub <;> l_ints) | (exact bd130 (by omega) (by omega)) | (exact bd210 (by omega) (by omega)) | (exact bd_self _) | fail)
def sp_law_cell_at : DSp := fun ds Q X => ∃ (ns : List Int) (k : Nat), ds = [.list (ns.map .int), .int k] ∧ ∀ c : Int, (k < ns.length ∨ c = 0) → Q (.d (.int c))
theorem p_law_cell_at {G : Nat → DSp} : FnW G 2 2 m_law_cell_at sp_law_cell_at := by
  intro ds Q X ⟨ns, k, e, q⟩
  subst e
  refine ⟨rfl, ?_⟩
  ((conv => whnf); repeat' (first | (refine wIf_tt ?_; conv => whnf) | (refine wIf_ff ?_; conv => whnf) | (refine wIf.mk (fun hif => (have hif := of_decide_eq_true hif; ?_)) (fun hif => (have hif := of_decide_eq_false hif; ?_)) <;> (conv => whnf)) | (refine wIf_not ?_) | (refine ⟨(by decide : (_ : Int) ≠ 0), fun w _ hw => ?_⟩; replace hw := hw (by decide); conv => whnf) | (refine ⟨(by decide : (_ : Int) ≠ 0), div_lit (by decide), fun w _ hw => ?_⟩; replace hw := hw (by decide); conv => whnf) | (refine eq_rD ?_; conv => whnf) | (refine eq_ts ?_; conv => whnf) | (refine ne_ts ?_; conv => whnf) | (refine ne_rD ?_; conv => whnf) | (refine eq_vD ?_; conv => whnf) | (refine ne_vD ?_; conv => whnf) | (refine ⟨isi_ok rfl, ?_⟩; conv => whnf) | (apply wMulS.mk; (first | exact mul_l (by decide) (by decide) | exact mul_r (by decide) (by decide) | exact mul_ok (by l_ints) (by l_ints) (by decide)); conv => whnf) | (refine ⟨⟨by decide, by decide, by decide⟩, ?_⟩; conv => whnf) | (refine ⟨⟨by decide, by decide, by omega⟩, ?_⟩; conv => whnf) | (refine ⟨small_sz (Nat.le_of_ble_eq_true rfl), ?_⟩; conv => whnf) | fail))
  · have h := hif
    obtain ⟨d, h1, h2⟩ := atI_mem (ds := ns.map .int) (i := (k : Int)) (by omega) (by simpa using hif)
    obtain ⟨c, h3, h4⟩ := List.mem_map.mp h2
    rw [h1, ← h4]
    exact q c (.inl (by simpa using hif))
  · exact q 0 (.inr rfl)
def sp_law_draw : DSp := fun ds Q X => ∃ (a k m : Int), ds = [.int a, .int k, .int m] ∧ 0 ≤ k ∧ k ≤ 1000000 ∧ 0 < m ∧ ∀ z : Int, 0 ≤ z → z < m → Q (.d (.int z))
theorem p_law_draw {G : Nat → DSp} : FnW G 5 3 m_law_draw sp_law_draw := by
  intro ds Q X ⟨a, k, m, e, h1, h2, h3, q⟩
  subst e
  refine ⟨rfl, ?_⟩
  ((conv => whnf); repeat' (first | (refine wIf_tt ?_; conv => whnf) | (refine wIf_ff ?_; conv => whnf) | (refine wIf.mk (fun hif => (have hif := of_decide_eq_true hif; ?_)) (fun hif => (have hif := of_decide_eq_false hif; ?_)) <;> (conv => whnf)) | (refine wIf_not ?_) | (refine ⟨(by decide : (_ : Int) ≠ 0), fun w _ hw => ?_⟩; replace hw := hw (by decide); conv => whnf) | (refine ⟨(by decide : (_ : Int) ≠ 0), div_lit (by decide), fun w _ hw => ?_⟩; replace hw := hw (by decide); conv => whnf) | (refine eq_rD ?_; conv => whnf) | (refine eq_ts ?_; conv => whnf) | (refine ne_ts ?_; conv => whnf) | (refine ne_rD ?_; conv => whnf) | (refine eq_vD ?_; conv => whnf) | (refine ne_vD ?_; conv => whnf) | (refine ⟨isi_ok rfl, ?_⟩; conv => whnf) | (apply wMulS.mk; (first | exact mul_l (by decide) (by decide) | exact mul_r (by decide) (by decide) | exact mul_ok (by l_ints) (by l_ints) (by decide)); conv => whnf) | (refine ⟨⟨by decide, by decide, by decide⟩, ?_⟩; conv => whnf) | (refine ⟨⟨by decide, by decide, by omega⟩, ?_⟩; conv => whnf) | (refine ⟨small_sz (Nat.le_of_ble_eq_true rfl), ?_⟩; conv => whnf) | fail))
  refine ⟨by omega, fun z _ hz => ?_⟩
  have hz := hz h3
  conv => whnf
  exact q z (by rw [hz]; exact Int.emod_nonneg _ (by omega)) (by rw [hz]; exact Int.emod_lt_of_pos _ h3)
def lineD : Option Vec → D
  | none => .none
  | some v => vD v
def sp_law_vector_2 : DSp := fun ds Q X => ∃ (c f : Int) (l : Option Vec), ds = [.int c, .int f, lineD l] ∧ 0 ≤ f ∧ f ≤ 10 ^ 40 ∧ (∀ v, l = some v → VB 10 v) ∧ ∀ v, VB 140 v → Q (.d (vD v))
theorem p_law_vector_2 {G : Nat → DSp} (g43 : G 43 = sp_law_draw) : FnW G 4 3 m_law_vector_2 sp_law_vector_2 := by
  intro ds Q X ⟨c, f, l, e, h1, h2, h3, q⟩
  subst e
  refine ⟨rfl, ?_⟩
  cases l with
  | none =>
    ((conv => whnf); repeat' (first | (refine gC g43 ⟨_, _, _, rfl, by decide, by decide, by omega, fun z hz1 hz2 => ?_⟩; conv => whnf) | (refine wIf_tt ?_; conv => whnf) | (refine wIf_ff ?_; conv => whnf) | (refine wIf.mk (fun hif => (have hif := of_decide_eq_true hif; ?_)) (fun hif => (have hif := of_decide_eq_false hif; ?_)) <;> (conv => whnf)) | (refine wIf_not ?_) | (refine ⟨(by decide : (_ : Int) ≠ 0), fun w _ hw => ?_⟩; replace hw := hw (by decide); conv => whnf) | (refine ⟨(by decide : (_ : Int) ≠ 0), div_lit (by decide), fun w _ hw => ?_⟩; replace hw := hw (by decide); conv => whnf) | (refine eq_rD ?_; conv => whnf) | (refine eq_ts ?_; conv => whnf) | (refine ne_ts ?_; conv => whnf) | (refine ne_rD ?_; conv => whnf) | (refine eq_vD ?_; conv => whnf) | (refine ne_vD ?_; conv => whnf) | (refine ⟨isi_ok rfl, ?_⟩; conv => whnf) | (apply wMulS.mk; (first | exact mul_l (by decide) (by decide) | exact mul_r (by decide) (by decide) | exact mul_ok (by l_ints) (by l_ints) (by decide)); conv => whnf) | (refine ⟨⟨by decide, by decide, by decide⟩, ?_⟩; conv => whnf) | (refine ⟨⟨by decide, by decide, by omega⟩, ?_⟩; conv => whnf) | (refine ⟨small_sz (Nat.le_of_ble_eq_true rfl), ?_⟩; conv => whnf) | fail))
    exact q (_, _) ⟨bd_of (by omega) (by omega), bd_of (by omega) (by omega)⟩
  | some v =>
    obtain ⟨b1, b2⟩ := h3 v rfl
    ((conv => whnf); repeat' (first | (refine gC g43 ⟨_, _, _, rfl, by decide, by decide, by omega, fun z hz1 hz2 => ?_⟩; conv => whnf) | (refine wIf_tt ?_; conv => whnf) | (refine wIf_ff ?_; conv => whnf) | (refine wIf.mk (fun hif => (have hif := of_decide_eq_true hif; ?_)) (fun hif => (have hif := of_decide_eq_false hif; ?_)) <;> (conv => whnf)) | (refine wIf_not ?_) | (refine ⟨(by decide : (_ : Int) ≠ 0), fun w _ hw => ?_⟩; replace hw := hw (by decide); conv => whnf) | (refine ⟨(by decide : (_ : Int) ≠ 0), div_lit (by decide), fun w _ hw => ?_⟩; replace hw := hw (by decide); conv => whnf) | (refine eq_rD ?_; conv => whnf) | (refine eq_ts ?_; conv => whnf) | (refine ne_ts ?_; conv => whnf) | (refine ne_rD ?_; conv => whnf) | (refine eq_vD ?_; conv => whnf) | (refine ne_vD ?_; conv => whnf) | (refine ⟨isi_ok rfl, ?_⟩; conv => whnf) | (apply wMulS.mk; (first | exact mul_l (by decide) (by decide) | exact mul_r (by decide) (by decide) | exact mul_ok (by l_ints) (by l_ints) (by decide)); conv => whnf) | (refine ⟨⟨by decide, by decide, by decide⟩, ?_⟩; conv => whnf) | (refine ⟨⟨by decide, by decide, by omega⟩, ?_⟩; conv => whnf) | (refine ⟨small_sz (Nat.le_of_ble_eq_true rfl), ?_⟩; conv => whnf) | fail))
    exact q (_, _) ⟨Bd.mono (by l_ints) (by decide), Bd.mono (by l_ints) (by decide)⟩
def sp_law_free_vector : DSp := fun ds Q X => ∃ (c f : Int), ds = [.int c, .int f] ∧ 0 ≤ f ∧ f ≤ 10 ^ 40 ∧ ∀ v, VB 140 v → Q (.d (vD v))
theorem p_law_free_vector {G : Nat → DSp} : FnW G 3 2 m_law_free_vector sp_law_free_vector := by
  intro ds Q X ⟨c, f, e, h1, h2, q⟩
  subst e
  refine ⟨rfl, ?_⟩
  have bs : Bd 210 (2 * f + 1) := bd210 (by omega) (by omega)
  have key : ∀ l r : Int, (0 < 2 * f + 1 → r = l % (2 * f + 1)) → 0 ≤ r ∧ r ≤ 2 * f := fun l r h => by
    have h := h (by omega)
    have a := Int.emod_nonneg l (show 2 * f + 1 ≠ 0 by omega)
    have b := Int.emod_lt_of_pos l (show 0 < 2 * f + 1 by omega)
    omega
  ((conv => whnf); repeat' (first | (refine ⟨by omega, fun w _ hw => ?_⟩; replace hw := key _ _ hw; conv => whnf) | (refine ⟨by omega, div_ok bs (by decide), fun w _ _ => ?_⟩; conv => whnf) | (refine wIf_tt ?_; conv => whnf) | (refine wIf_ff ?_; conv => whnf) | (refine wIf.mk (fun hif => (have hif := of_decide_eq_true hif; ?_)) (fun hif => (have hif := of_decide_eq_false hif; ?_)) <;> (conv => whnf)) | (refine wIf_not ?_) | (refine ⟨(by decide : (_ : Int) ≠ 0), fun w _ hw => ?_⟩; replace hw := hw (by decide); conv => whnf) | (refine ⟨(by decide : (_ : Int) ≠ 0), div_lit (by decide), fun w _ hw => ?_⟩; replace hw := hw (by decide); conv => whnf) | (refine eq_rD ?_; conv => whnf) | (refine eq_ts ?_; conv => whnf) | (refine ne_ts ?_; conv => whnf) | (refine ne_rD ?_; conv => whnf) | (refine eq_vD ?_; conv => whnf) | (refine ne_vD ?_; conv => whnf) | (refine ⟨isi_ok rfl, ?_⟩; conv => whnf) | (apply wMulS.mk; (first | exact mul_l (by decide) (by decide) | exact mul_r (by decide) (by decide) | exact mul_ok (by l_ints) (by l_ints) (by decide)); conv => whnf) | (refine ⟨⟨by decide, by decide, by decide⟩, ?_⟩; conv => whnf) | (refine ⟨⟨by decide, by decide, by omega⟩, ?_⟩; conv => whnf) | (refine ⟨small_sz (Nat.le_of_ble_eq_true rfl), ?_⟩; conv => whnf) | fail))
  exact q (_, _) ⟨bd_of (by omega) (by omega), bd_of (by omega) (by omega)⟩
abbrev Wt := List Vec × Vec
def wtD (w : Wt) : D := .tuple [windD w.1, vD w.2]
structure WtOk (k n : Nat) (w : Wt) : Prop where
  ne : w.1 ≠ []
  len : w.1.length ≤ n
  vb : ∀ v ∈ w.1, VB k v
  st : VB k w.2
theorem pick3 {i a b c : Int} (h0 : 0 ≤ i) (h1 : i < 3) : ∃ z, atI [PyData.int a, .int b, .int c] i = some (.int z) ∧ (z = a ∨ z = b ∨ z = c) := by
  obtain ⟨x, h2, h3⟩ := atI_mem (ds := [PyData.int a, .int b, .int c]) h0 (by simpa using h1)
  simp at h3
  rcases h3 with h3 | h3 | h3 <;> subst h3
  · exact ⟨a, h2, .inl rfl⟩
  · exact ⟨b, h2, .inr (.inl rfl)⟩
  · exact ⟨c, h2, .inr (.inr rfl)⟩
theorem cut_sub {α : Type} {f : α → D} (xs : List α) (lo hi : Option Int) : ∃ ys : List α, cutD (xs.map f) lo hi = ys.map f ∧ ys.length ≤ xs.length ∧ ∀ y ∈ ys, y ∈ xs := by
  refine ⟨(xs.drop (HT.sIx xs.length 0 lo)).take (HT.sIx xs.length xs.length hi - HT.sIx xs.length 0 lo), ?_, ?_, fun y hy => List.mem_of_mem_drop (List.mem_of_mem_take hy)⟩
  · unfold cutD
    rw [List.length_map, List.map_take, List.map_drop]
  · rw [List.length_take, List.length_drop]
    omega
theorem cut_le {α : Type} {f : α → D} (xs : List α) (i j : Int) (h0 : 0 ≤ i) (h1 : i ≤ j) : ∃ ys : List α, cutD (xs.map f) (some i) (some j) = ys.map f ∧ (ys.length : Int) ≤ j - i ∧ ∀ y ∈ ys, y ∈ xs := by
  obtain ⟨a, rfl⟩ := Int.eq_ofNat_of_zero_le h0
  obtain ⟨b, rfl⟩ := Int.eq_ofNat_of_zero_le (Int.le_trans h0 h1)
  refine ⟨(xs.drop a).take (b - a), ?_, ?_, fun y hy => List.mem_of_mem_drop (List.mem_of_mem_take hy)⟩
  · rw [List.map_take, List.map_drop]
    exact cut_gen _ a b
  · rw [List.length_take]
    omega
def sp_law_free_watches : DSp := fun ds Q X => ∃ (ns : List Int), ds = [.list (ns.map .int)] ∧ ns ≠ [] ∧ ∀ ws : List Wt, ws.length ≤ 12 → (∀ w ∈ ws, WtOk 140 12 w) → Q (.d (.tuple (ws.map wtD)))
theorem p_law_free_watches {G : Nat → DSp} (g45 : G 45 = sp_law_free_vector) : FnW G 8 1 m_law_free_watches sp_law_free_watches := by
  intro ds Q X ⟨ns, e, hn, q⟩
  subst e
  refine ⟨rfl, ?_⟩
  have hl := List.length_pos_iff.mpr hn
  obtain ⟨c, hc, a0⟩ := atI_maps (f := PyData.int) (xs := ns) (i := 0) (by omega) (by omega)
  ((conv => whnf); repeat' (first | (rw [a0]; conv => whnf) | (refine wIf_tt ?_; conv => whnf) | (refine wIf_ff ?_; conv => whnf) | (refine wIf.mk (fun hif => (have hif := of_decide_eq_true hif; ?_)) (fun hif => (have hif := of_decide_eq_false hif; ?_)) <;> (conv => whnf)) | (refine wIf_not ?_) | (refine ⟨(by decide : (_ : Int) ≠ 0), fun w _ hw => ?_⟩; replace hw := hw (by decide); conv => whnf) | (refine ⟨(by decide : (_ : Int) ≠ 0), div_lit (by decide), fun w _ hw => ?_⟩; replace hw := hw (by decide); conv => whnf) | (refine eq_rD ?_; conv => whnf) | (refine eq_ts ?_; conv => whnf) | (refine ne_ts ?_; conv => whnf) | (refine ne_rD ?_; conv => whnf) | (refine eq_vD ?_; conv => whnf) | (refine ne_vD ?_; conv => whnf) | (refine ⟨isi_ok rfl, ?_⟩; conv => whnf) | (apply wMulS.mk; (first | exact mul_l (by decide) (by decide) | exact mul_r (by decide) (by decide) | exact mul_ok (by l_ints) (by l_ints) (by decide)); conv => whnf) | (refine ⟨⟨by decide, by decide, by decide⟩, ?_⟩; conv => whnf) | (refine ⟨⟨by decide, by decide, by omega⟩, ?_⟩; conv => whnf) | (refine ⟨small_sz (Nat.le_of_ble_eq_true rfl), ?_⟩; conv => whnf) | fail))
  obtain ⟨far, e1, hs⟩ := pick3 (i := w) (a := 3) (b := 12) (c := 10 ^ (9 : Int).toNat) (by omega) (by omega)
  have hp : (10 : Int) ^ (9 : Int).toNat = 10 ^ 9 := rfl
  have hf : 3 ≤ far ∧ far ≤ 10 ^ 9 := by omega
  rw [e1]
  ((conv => whnf); repeat' (first | (refine wIf_tt ?_; conv => whnf) | (refine wIf_ff ?_; conv => whnf) | (refine wIf.mk (fun hif => (have hif := of_decide_eq_true hif; ?_)) (fun hif => (have hif := of_decide_eq_false hif; ?_)) <;> (conv => whnf)) | (refine wIf_not ?_) | (refine ⟨(by decide : (_ : Int) ≠ 0), fun w _ hw => ?_⟩; replace hw := hw (by decide); conv => whnf) | (refine ⟨(by decide : (_ : Int) ≠ 0), div_lit (by decide), fun w _ hw => ?_⟩; replace hw := hw (by decide); conv => whnf) | (refine eq_rD ?_; conv => whnf) | (refine eq_ts ?_; conv => whnf) | (refine ne_ts ?_; conv => whnf) | (refine ne_rD ?_; conv => whnf) | (refine eq_vD ?_; conv => whnf) | (refine ne_vD ?_; conv => whnf) | (refine ⟨isi_ok rfl, ?_⟩; conv => whnf) | (apply wMulS.mk; (first | exact mul_l (by decide) (by decide) | exact mul_r (by decide) (by decide) | exact mul_ok (by l_ints) (by l_ints) (by decide)); conv => whnf) | (refine ⟨⟨by decide, by decide, by decide⟩, ?_⟩; conv => whnf) | (refine ⟨⟨by decide, by decide, by omega⟩, ?_⟩; conv => whnf) | (refine ⟨small_sz (Nat.le_of_ble_eq_true rfl), ?_⟩; conv => whnf) | fail))
  have hlen : ((ns.map PyData.int).length : Int) = ns.length := by simp
  refine ⟨fun n ρ => ∃ (at_ : Int) (ws : List Wt) (a b c d : Option R), 1 ≤ at_ ∧ n = (61 - at_).toNat ∧ ws.length ≤ 12 ∧ (∀ w ∈ ws, WtOk 140 12 w) ∧ ρ = [some (.d (.list (ns.map .int))), some (.d (.int far)), some (.l (ws.map wtD) true), some (.d (.int at_)), a, b, c, d], ⟨_, 1, [], none, none, none, none, by omega, rfl, by simp, by simp, rfl⟩, ?_⟩
  rintro n ρ ⟨at_, ws, a, b, c, d, h1, rfl, h2, h3, rfl⟩
  have fin : Q (.d (.tuple (ws.map wtD))) := q ws h2 h3
  have hmin : (if (61 : Int) < ((ns.map PyData.int).length : Int) then (61 : Int) else ((ns.map PyData.int).length : Int)) ≤ 61 ∧ (if (61 : Int) < ((ns.map PyData.int).length : Int) then (61 : Int) else ((ns.map PyData.int).length : Int)) ≤ ns.length := by split <;> omega
  conv => whnf
  refine wIf.mk (fun hc => ?_) (fun hc => ?_)
  case refine_2 =>
    ((conv => whnf); repeat' (first | (refine wIf_tt ?_; conv => whnf) | (refine wIf_ff ?_; conv => whnf) | (refine wIf.mk (fun hif => (have hif := of_decide_eq_true hif; ?_)) (fun hif => (have hif := of_decide_eq_false hif; ?_)) <;> (conv => whnf)) | (refine wIf_not ?_) | (refine ⟨(by decide : (_ : Int) ≠ 0), fun w _ hw => ?_⟩; replace hw := hw (by decide); conv => whnf) | (refine ⟨(by decide : (_ : Int) ≠ 0), div_lit (by decide), fun w _ hw => ?_⟩; replace hw := hw (by decide); conv => whnf) | (refine eq_rD ?_; conv => whnf) | (refine eq_ts ?_; conv => whnf) | (refine ne_ts ?_; conv => whnf) | (refine ne_rD ?_; conv => whnf) | (refine eq_vD ?_; conv => whnf) | (refine ne_vD ?_; conv => whnf) | (refine ⟨isi_ok rfl, ?_⟩; conv => whnf) | (apply wMulS.mk; (first | exact mul_l (by decide) (by decide) | exact mul_r (by decide) (by decide) | exact mul_ok (by l_ints) (by l_ints) (by decide)); conv => whnf) | (refine ⟨⟨by decide, by decide, by decide⟩, ?_⟩; conv => whnf) | (refine ⟨⟨by decide, by decide, by omega⟩, ?_⟩; conv => whnf) | (refine ⟨small_sz (Nat.le_of_ble_eq_true rfl), ?_⟩; conv => whnf) | fail))
    exact fin
  have hc : at_ < _ := of_decide_eq_true hc
  conv => whnf
  refine wIf.mk (fun hd => ?_) (fun hd => ?_)
  case refine_2 =>
    ((conv => whnf); repeat' (first | (refine wIf_tt ?_; conv => whnf) | (refine wIf_ff ?_; conv => whnf) | (refine wIf.mk (fun hif => (have hif := of_decide_eq_true hif; ?_)) (fun hif => (have hif := of_decide_eq_false hif; ?_)) <;> (conv => whnf)) | (refine wIf_not ?_) | (refine ⟨(by decide : (_ : Int) ≠ 0), fun w _ hw => ?_⟩; replace hw := hw (by decide); conv => whnf) | (refine ⟨(by decide : (_ : Int) ≠ 0), div_lit (by decide), fun w _ hw => ?_⟩; replace hw := hw (by decide); conv => whnf) | (refine eq_rD ?_; conv => whnf) | (refine eq_ts ?_; conv => whnf) | (refine ne_ts ?_; conv => whnf) | (refine ne_rD ?_; conv => whnf) | (refine eq_vD ?_; conv => whnf) | (refine ne_vD ?_; conv => whnf) | (refine ⟨isi_ok rfl, ?_⟩; conv => whnf) | (apply wMulS.mk; (first | exact mul_l (by decide) (by decide) | exact mul_r (by decide) (by decide) | exact mul_ok (by l_ints) (by l_ints) (by decide)); conv => whnf) | (refine ⟨⟨by decide, by decide, by decide⟩, ?_⟩; conv => whnf) | (refine ⟨⟨by decide, by decide, by omega⟩, ?_⟩; conv => whnf) | (refine ⟨small_sz (Nat.le_of_ble_eq_true rfl), ?_⟩; conv => whnf) | fail))
    exact fin
  have hd : ((ws.map wtD).length : Int) < 12 := of_decide_eq_true hd
  have hd : ws.length < 12 := by simp at hd; omega
  have hat : at_ < 61 ∧ at_ < ns.length := ⟨Int.lt_of_lt_of_le hc hmin.1, Int.lt_of_lt_of_le hc hmin.2⟩
  obtain ⟨x, hx, a1⟩ := atI_maps (f := PyData.int) (xs := ns) (i := at_) (by omega) (by omega)
  have fv : ∀ (c : Int) (W : R → Prop) {X : Nat → Prop}, (∀ v, VB 140 v → W (.d (vD v))) → G 45 [.int c, .int far] W X := fun c W _ h => gC g45 ⟨c, far, rfl, by omega, by omega, h⟩
  ((conv => whnf); repeat' (first | (rw [a1]; conv => whnf) | (refine fv _ _ fun v1 hv1 => ?_; conv => whnf) | (refine wIf_tt ?_; conv => whnf) | (refine wIf_ff ?_; conv => whnf) | (refine wIf.mk (fun hif => (have hif := of_decide_eq_true hif; ?_)) (fun hif => (have hif := of_decide_eq_false hif; ?_)) <;> (conv => whnf)) | (refine wIf_not ?_) | (refine ⟨(by decide : (_ : Int) ≠ 0), fun w _ hw => ?_⟩; replace hw := hw (by decide); conv => whnf) | (refine ⟨(by decide : (_ : Int) ≠ 0), div_lit (by decide), fun w _ hw => ?_⟩; replace hw := hw (by decide); conv => whnf) | (refine eq_rD ?_; conv => whnf) | (refine eq_ts ?_; conv => whnf) | (refine ne_ts ?_; conv => whnf) | (refine ne_rD ?_; conv => whnf) | (refine eq_vD ?_; conv => whnf) | (refine ne_vD ?_; conv => whnf) | (refine ⟨isi_ok rfl, ?_⟩; conv => whnf) | (apply wMulS.mk; (first | exact mul_l (by decide) (by decide) | exact mul_r (by decide) (by decide) | exact mul_ok (by l_ints) (by l_ints) (by decide)); conv => whnf) | (refine ⟨⟨by decide, by decide, by decide⟩, ?_⟩; conv => whnf) | (refine ⟨⟨by decide, by decide, by omega⟩, ?_⟩; conv => whnf) | (refine ⟨small_sz (Nat.le_of_ble_eq_true rfl), ?_⟩; conv => whnf) | fail))
  have hw1 : 0 ≤ x % 12 ∧ x % 12 < 12 := by omega
  obtain ⟨j, hj⟩ : ∃ j, j = (fun i j : Int => if j < i then j else i) (at_ + (1 + x % 12)) 61 := ⟨_, rfl⟩
  have hj1 : at_ + 1 ≤ j ∧ j - at_ ≤ 12 := by
    rw [hj]
    show _ ≤ (if (61 : Int) < _ then _ else _) ∧ (if (61 : Int) < _ then _ else _) - at_ ≤ 12
    split <;> omega
  have hj2 : ∀ y, y = x % 12 → (fun i j : Int => if j < i then j else i) (at_ + (1 + y)) 61 = j := fun y h => by rw [h, hj]
  rw [hj2 _ (by assumption)]
  obtain ⟨cs, ec, lc, _⟩ := cut_le (f := PyData.int) ns (at_ + 1) j (by omega) (by omega)
  rw [ec]
  refine lc_each (t := .nm 7) PyData.int vD (VB 140) cs (fun y _ k hk => ?_) fun vs hl hv => ?_
  · ((conv => whnf); repeat' (first | (refine fv _ _ fun v1 hv1 => ?_; conv => whnf) | (refine wIf_tt ?_; conv => whnf) | (refine wIf_ff ?_; conv => whnf) | (refine wIf.mk (fun hif => (have hif := of_decide_eq_true hif; ?_)) (fun hif => (have hif := of_decide_eq_false hif; ?_)) <;> (conv => whnf)) | (refine wIf_not ?_) | (refine ⟨(by decide : (_ : Int) ≠ 0), fun w _ hw => ?_⟩; replace hw := hw (by decide); conv => whnf) | (refine ⟨(by decide : (_ : Int) ≠ 0), div_lit (by decide), fun w _ hw => ?_⟩; replace hw := hw (by decide); conv => whnf) | (refine eq_rD ?_; conv => whnf) | (refine eq_ts ?_; conv => whnf) | (refine ne_ts ?_; conv => whnf) | (refine ne_rD ?_; conv => whnf) | (refine eq_vD ?_; conv => whnf) | (refine ne_vD ?_; conv => whnf) | (refine ⟨isi_ok rfl, ?_⟩; conv => whnf) | (apply wMulS.mk; (first | exact mul_l (by decide) (by decide) | exact mul_r (by decide) (by decide) | exact mul_ok (by l_ints) (by l_ints) (by decide)); conv => whnf) | (refine ⟨⟨by decide, by decide, by decide⟩, ?_⟩; conv => whnf) | (refine ⟨⟨by decide, by decide, by omega⟩, ?_⟩; conv => whnf) | (refine ⟨small_sz (Nat.le_of_ble_eq_true rfl), ?_⟩; conv => whnf) | fail))
    exact hk _ hv1
  have hpw : (2 * far + 1) ^ (2 : Int).toNat = (2 * far + 1) * (2 * far + 1) := by
    show (2 * far + 1) ^ 2 = _
    rw [Int.pow_succ, Int.pow_succ, Int.pow_zero, Int.one_mul]
  have bp : Bd 80 ((2 * far + 1) ^ (2 : Int).toNat) := by
    rw [hpw]
    exact Bd.mul (bd40 (by omega) (by omega)) (bd40 (by omega) (by omega))
  have np : (2 * far + 1) ^ (2 : Int).toNat ≠ 0 := by
    rw [hpw]
    exact Int.mul_ne_zero (by omega) (by omega)
  conv => whnf
  refine ⟨small_sz (by simp; omega), ?_⟩
  ((conv => whnf); repeat' (first | (refine fv _ _ fun v2 hv2 => ?_; conv => whnf) | (refine ⟨np, div_ok bp (by decide), fun w _ _ => ?_⟩; conv => whnf) | (refine wIf_tt ?_; conv => whnf) | (refine wIf_ff ?_; conv => whnf) | (refine wIf.mk (fun hif => (have hif := of_decide_eq_true hif; ?_)) (fun hif => (have hif := of_decide_eq_false hif; ?_)) <;> (conv => whnf)) | (refine wIf_not ?_) | (refine ⟨(by decide : (_ : Int) ≠ 0), fun w _ hw => ?_⟩; replace hw := hw (by decide); conv => whnf) | (refine ⟨(by decide : (_ : Int) ≠ 0), div_lit (by decide), fun w _ hw => ?_⟩; replace hw := hw (by decide); conv => whnf) | (refine eq_rD ?_; conv => whnf) | (refine eq_ts ?_; conv => whnf) | (refine ne_ts ?_; conv => whnf) | (refine ne_rD ?_; conv => whnf) | (refine eq_vD ?_; conv => whnf) | (refine ne_vD ?_; conv => whnf) | (refine ⟨isi_ok rfl, ?_⟩; conv => whnf) | (apply wMulS.mk; (first | exact mul_l (by decide) (by decide) | exact mul_r (by decide) (by decide) | exact mul_ok (by l_ints) (by l_ints) (by decide)); conv => whnf) | (refine ⟨⟨by decide, by decide, by decide⟩, ?_⟩; conv => whnf) | (refine ⟨⟨by decide, by decide, by omega⟩, ?_⟩; conv => whnf) | (refine ⟨small_sz (Nat.le_of_ble_eq_true rfl), ?_⟩; conv => whnf) | fail))
  refine ⟨by simp; exact small_lt (by omega), ?_⟩
  conv => whnf
  refine ⟨_, ?_, _, ws ++ [(v1 :: vs, v2)], _, _, _, _, ?_, rfl, by simp; omega, fun w hw => ?_, by rw [List.map_append]; rfl⟩
  · omega
  · omega
  · rcases List.mem_append.mp hw with h | h
    · exact h3 w h
    · rw [List.mem_singleton.mp h]
      exact ⟨by simp, by simp; omega, fun u hu => by
        rcases List.mem_cons.mp hu with h | h
        · rw [h]; exact hv1
        · exact hv u h, hv2⟩
theorem pick4i {i a b c d : Int} (h0 : 0 ≤ i) (h1 : i < 4) : ∃ z, atI [PyData.int a, .int b, .int c, .int d] i = some (.int z) ∧ (z = a ∨ z = b ∨ z = c ∨ z = d) := by
  obtain ⟨x, h2, h3⟩ := atI_mem (ds := [PyData.int a, .int b, .int c, .int d]) h0 (by simpa using h1)
  simp at h3
  rcases h3 with h3 | h3 | h3 | h3 <;> subst h3
  · exact ⟨a, h2, .inl rfl⟩
  · exact ⟨b, h2, .inr (.inl rfl)⟩
  · exact ⟨c, h2, .inr (.inr (.inl rfl))⟩
  · exact ⟨d, h2, .inr (.inr (.inr rfl))⟩
def sp_law_watches : DSp := fun ds Q X => ∃ (ns : List Int), ds = [.list (ns.map .int)] ∧ ∀ ws : List Wt, ws.length ≤ 12 → (∀ w ∈ ws, WtOk 140 12 w) → Q (.d (.tuple (ws.map wtD)))
theorem p_law_watches {G : Nat → DSp} (g42 : G 42 = sp_law_cell_at) (g43 : G 43 = sp_law_draw) (g44 : G 44 = sp_law_vector_2) (g46 : G 46 = sp_law_free_watches) : FnW G 11 1 m_law_watches sp_law_watches := by
  intro ds Q X ⟨ns, e, q⟩
  subst e
  refine ⟨rfl, ?_⟩
  conv => whnf
  refine gC g42 ⟨ns, 0, rfl, fun base hbase => ?_⟩
  have dr : ∀ (a k m : Int) (W : R → Prop) {X : Nat → Prop}, (0 ≤ k ∧ k ≤ 1000000 ∧ 0 < m) → (∀ z : Int, 0 ≤ z → z < m → W (.d (.int z))) → G 43 [.int a, .int k, .int m] W X := fun a k m W _ hh h => gC g43 ⟨a, k, m, rfl, hh.1, hh.2.1, hh.2.2, h⟩
  ((conv => whnf); repeat' (first | (refine dr _ _ _ _ (by decide) fun z hz1 hz2 => ?_; conv => whnf) | (refine wIf_tt ?_; conv => whnf) | (refine wIf_ff ?_; conv => whnf) | (refine wIf.mk (fun hif => (have hif := of_decide_eq_true hif; ?_)) (fun hif => (have hif := of_decide_eq_false hif; ?_)) <;> (conv => whnf)) | (refine wIf_not ?_) | (refine ⟨(by decide : (_ : Int) ≠ 0), fun w _ hw => ?_⟩; replace hw := hw (by decide); conv => whnf) | (refine ⟨(by decide : (_ : Int) ≠ 0), div_lit (by decide), fun w _ hw => ?_⟩; replace hw := hw (by decide); conv => whnf) | (refine eq_rD ?_; conv => whnf) | (refine eq_ts ?_; conv => whnf) | (refine ne_ts ?_; conv => whnf) | (refine ne_rD ?_; conv => whnf) | (refine eq_vD ?_; conv => whnf) | (refine ne_vD ?_; conv => whnf) | (refine ⟨isi_ok rfl, ?_⟩; conv => whnf) | (apply wMulS.mk; (first | exact mul_l (by decide) (by decide) | exact mul_r (by decide) (by decide) | exact mul_ok (by l_ints) (by l_ints) (by decide)); conv => whnf) | (refine ⟨⟨by decide, by decide, by decide⟩, ?_⟩; conv => whnf) | (refine ⟨⟨by decide, by decide, by omega⟩, ?_⟩; conv => whnf) | (refine ⟨small_sz (Nat.le_of_ble_eq_true rfl), ?_⟩; conv => whnf) | fail))
  · have h0 : ns ≠ [] := by
      intro h
      subst h
      rcases hbase with h | h
      · simp at h
      · subst h; omega
    exact gC g46 ⟨ns, rfl, h0, fun ws h1 h2 => q ws h1 h2⟩
  obtain ⟨far, e1, hs⟩ := pick4i (i := z) (a := 3) (b := 3) (c := 12) (d := 10 ^ (9 : Int).toNat) (by omega) (by omega)
  have hp : (10 : Int) ^ (9 : Int).toNat = 10 ^ 9 := rfl
  have hf : 3 ≤ far ∧ far ≤ 10 ^ 9 := by omega
  rw [e1]
  conv => whnf
  refine dr _ 4 5 _ (by decide) fun z1 _ _ => ?_
  conv => whnf
  refine wIf.mk (fun hl => ?_) (fun hl => ?_)
  · ((conv => whnf); repeat' (first | (refine wIf_tt ?_; conv => whnf) | (refine wIf_ff ?_; conv => whnf) | (refine wIf.mk (fun hif => (have hif := of_decide_eq_true hif; ?_)) (fun hif => (have hif := of_decide_eq_false hif; ?_)) <;> (conv => whnf)) | (refine wIf_not ?_) | (refine ⟨(by decide : (_ : Int) ≠ 0), fun w _ hw => ?_⟩; replace hw := hw (by decide); conv => whnf) | (refine ⟨(by decide : (_ : Int) ≠ 0), div_lit (by decide), fun w _ hw => ?_⟩; replace hw := hw (by decide); conv => whnf) | (refine eq_rD ?_; conv => whnf) | (refine eq_ts ?_; conv => whnf) | (refine ne_ts ?_; conv => whnf) | (refine ne_rD ?_; conv => whnf) | (refine eq_vD ?_; conv => whnf) | (refine ne_vD ?_; conv => whnf) | (refine ⟨isi_ok rfl, ?_⟩; conv => whnf) | (apply wMulS.mk; (first | exact mul_l (by decide) (by decide) | exact mul_r (by decide) (by decide) | exact mul_ok (by l_ints) (by l_ints) (by decide)); conv => whnf) | (refine ⟨⟨by decide, by decide, by decide⟩, ?_⟩; conv => whnf) | (refine ⟨⟨by decide, by decide, by omega⟩, ?_⟩; conv => whnf) | (refine ⟨small_sz (Nat.le_of_ble_eq_true rfl), ?_⟩; conv => whnf) | fail))
    refine dr _ 5 7 _ (by decide) fun z2 _ _ => ?_
    conv => whnf
    refine dr _ 6 7 _ (by decide) fun z3 _ _ => ?_
    ((conv => whnf); repeat' (first | (refine wIf_tt ?_; conv => whnf) | (refine wIf_ff ?_; conv => whnf) | (refine wIf.mk (fun hif => (have hif := of_decide_eq_true hif; ?_)) (fun hif => (have hif := of_decide_eq_false hif; ?_)) <;> (conv => whnf)) | (refine wIf_not ?_) | (refine ⟨(by decide : (_ : Int) ≠ 0), fun w _ hw => ?_⟩; replace hw := hw (by decide); conv => whnf) | (refine ⟨(by decide : (_ : Int) ≠ 0), div_lit (by decide), fun w _ hw => ?_⟩; replace hw := hw (by decide); conv => whnf) | (refine eq_rD ?_; conv => whnf) | (refine eq_ts ?_; conv => whnf) | (refine ne_ts ?_; conv => whnf) | (refine ne_rD ?_; conv => whnf) | (refine eq_vD ?_; conv => whnf) | (refine ne_vD ?_; conv => whnf) | (refine ⟨isi_ok rfl, ?_⟩; conv => whnf) | (apply wMulS.mk; (first | exact mul_l (by decide) (by decide) | exact mul_r (by decide) (by decide) | exact mul_ok (by l_ints) (by l_ints) (by decide)); conv => whnf) | (refine ⟨⟨by decide, by decide, by decide⟩, ?_⟩; conv => whnf) | (refine ⟨⟨by decide, by decide, by omega⟩, ?_⟩; conv => whnf) | (refine ⟨small_sz (Nat.le_of_ble_eq_true rfl), ?_⟩; conv => whnf) | fail))
    refine dr _ 8 4 _ (by decide) fun z4 hz41 hz42 => ?_
    ((conv => whnf); repeat' (first | (refine wIf_tt ?_; conv => whnf) | (refine wIf_ff ?_; conv => whnf) | (refine wIf.mk (fun hif => (have hif := of_decide_eq_true hif; ?_)) (fun hif => (have hif := of_decide_eq_false hif; ?_)) <;> (conv => whnf)) | (refine wIf_not ?_) | (refine ⟨(by decide : (_ : Int) ≠ 0), fun w _ hw => ?_⟩; replace hw := hw (by decide); conv => whnf) | (refine ⟨(by decide : (_ : Int) ≠ 0), div_lit (by decide), fun w _ hw => ?_⟩; replace hw := hw (by decide); conv => whnf) | (refine eq_rD ?_; conv => whnf) | (refine eq_ts ?_; conv => whnf) | (refine ne_ts ?_; conv => whnf) | (refine ne_rD ?_; conv => whnf) | (refine eq_vD ?_; conv => whnf) | (refine ne_vD ?_; conv => whnf) | (refine ⟨isi_ok rfl, ?_⟩; conv => whnf) | (apply wMulS.mk; (first | exact mul_l (by decide) (by decide) | exact mul_r (by decide) (by decide) | exact mul_ok (by l_ints) (by l_ints) (by decide)); conv => whnf) | (refine ⟨⟨by decide, by decide, by decide⟩, ?_⟩; conv => whnf) | (refine ⟨⟨by decide, by decide, by omega⟩, ?_⟩; conv => whnf) | (refine ⟨small_sz (Nat.le_of_ble_eq_true rfl), ?_⟩; conv => whnf) | fail))
    have hLL : ∀ v, (some (z2 - 3, z3 - 3) : Option Vec) = some v → VB 10 v := fun v h => by cases h; exact ⟨bd_of (by omega) (by omega), bd_of (by omega) (by omega)⟩
    obtain ⟨most, e2, hm⟩ := pick4i (i := z4) (a := 3) (b := 3) (c := 5) (d := 12) (by assumption) (by assumption)
    have hm2 : 3 ≤ most ∧ most ≤ 12 := by omega
    rw [e2]
    ((conv => whnf); repeat' (first | (refine wIf_tt ?_; conv => whnf) | (refine wIf_ff ?_; conv => whnf) | (refine wIf.mk (fun hif => (have hif := of_decide_eq_true hif; ?_)) (fun hif => (have hif := of_decide_eq_false hif; ?_)) <;> (conv => whnf)) | (refine wIf_not ?_) | (refine ⟨(by decide : (_ : Int) ≠ 0), fun w _ hw => ?_⟩; replace hw := hw (by decide); conv => whnf) | (refine ⟨(by decide : (_ : Int) ≠ 0), div_lit (by decide), fun w _ hw => ?_⟩; replace hw := hw (by decide); conv => whnf) | (refine eq_rD ?_; conv => whnf) | (refine eq_ts ?_; conv => whnf) | (refine ne_ts ?_; conv => whnf) | (refine ne_rD ?_; conv => whnf) | (refine eq_vD ?_; conv => whnf) | (refine ne_vD ?_; conv => whnf) | (refine ⟨isi_ok rfl, ?_⟩; conv => whnf) | (apply wMulS.mk; (first | exact mul_l (by decide) (by decide) | exact mul_r (by decide) (by decide) | exact mul_ok (by l_ints) (by l_ints) (by decide)); conv => whnf) | (refine ⟨⟨by decide, by decide, by decide⟩, ?_⟩; conv => whnf) | (refine ⟨⟨by decide, by decide, by omega⟩, ?_⟩; conv => whnf) | (refine ⟨small_sz (Nat.le_of_ble_eq_true rfl), ?_⟩; conv => whnf) | fail))
    refine ⟨fun n ρ => ∃ (at_ : Int) (ws : List Wt) (a b c d : Option DL.R), 1 ≤ at_ ∧ n = (61 - at_).toNat ∧ ws.length ≤ 12 ∧ (∀ w ∈ ws, WtOk 140 12 w) ∧ ρ = [some (.d (.list (ns.map .int))), some (.d (.int base)), some (.d (.int far)), some (.d (lineD (some (z2 - 3, z3 - 3)))), some (.d (.int most)), some (.l (ws.map wtD) true), some (.d (.int at_)), a, b, c, d], ⟨_, 1, [], none, none, none, none, by omega, rfl, by simp, by simp, rfl⟩, ?_⟩
    rintro n ρ ⟨at_, ws, a, b, c, d, h1, rfl, h2, h3, rfl⟩
    have fin : Q (.d (.tuple (ws.map wtD))) := q ws h2 h3
    have hlen : ((ns.map PyData.int).length : Int) = ns.length := by simp
    have hmin : (if (61 : Int) < ((ns.map PyData.int).length : Int) then (61 : Int) else ((ns.map PyData.int).length : Int)) ≤ 61 ∧ (if (61 : Int) < ((ns.map PyData.int).length : Int) then (61 : Int) else ((ns.map PyData.int).length : Int)) ≤ ns.length := by split <;> omega
    conv => whnf
    refine wIf.mk (fun hc => ?_) (fun hc => ?_)
    case refine_2 =>
      ((conv => whnf); repeat' (first | (refine wIf_tt ?_; conv => whnf) | (refine wIf_ff ?_; conv => whnf) | (refine wIf.mk (fun hif => (have hif := of_decide_eq_true hif; ?_)) (fun hif => (have hif := of_decide_eq_false hif; ?_)) <;> (conv => whnf)) | (refine wIf_not ?_) | (refine ⟨(by decide : (_ : Int) ≠ 0), fun w _ hw => ?_⟩; replace hw := hw (by decide); conv => whnf) | (refine ⟨(by decide : (_ : Int) ≠ 0), div_lit (by decide), fun w _ hw => ?_⟩; replace hw := hw (by decide); conv => whnf) | (refine eq_rD ?_; conv => whnf) | (refine eq_ts ?_; conv => whnf) | (refine ne_ts ?_; conv => whnf) | (refine ne_rD ?_; conv => whnf) | (refine eq_vD ?_; conv => whnf) | (refine ne_vD ?_; conv => whnf) | (refine ⟨isi_ok rfl, ?_⟩; conv => whnf) | (apply wMulS.mk; (first | exact mul_l (by decide) (by decide) | exact mul_r (by decide) (by decide) | exact mul_ok (by l_ints) (by l_ints) (by decide)); conv => whnf) | (refine ⟨⟨by decide, by decide, by decide⟩, ?_⟩; conv => whnf) | (refine ⟨⟨by decide, by decide, by omega⟩, ?_⟩; conv => whnf) | (refine ⟨small_sz (Nat.le_of_ble_eq_true rfl), ?_⟩; conv => whnf) | fail))
      exact fin
    have hc : at_ < _ := of_decide_eq_true hc
    conv => whnf
    refine wIf.mk (fun hd => ?_) (fun hd => ?_)
    case refine_2 =>
      ((conv => whnf); repeat' (first | (refine wIf_tt ?_; conv => whnf) | (refine wIf_ff ?_; conv => whnf) | (refine wIf.mk (fun hif => (have hif := of_decide_eq_true hif; ?_)) (fun hif => (have hif := of_decide_eq_false hif; ?_)) <;> (conv => whnf)) | (refine wIf_not ?_) | (refine ⟨(by decide : (_ : Int) ≠ 0), fun w _ hw => ?_⟩; replace hw := hw (by decide); conv => whnf) | (refine ⟨(by decide : (_ : Int) ≠ 0), div_lit (by decide), fun w _ hw => ?_⟩; replace hw := hw (by decide); conv => whnf) | (refine eq_rD ?_; conv => whnf) | (refine eq_ts ?_; conv => whnf) | (refine ne_ts ?_; conv => whnf) | (refine ne_rD ?_; conv => whnf) | (refine eq_vD ?_; conv => whnf) | (refine ne_vD ?_; conv => whnf) | (refine ⟨isi_ok rfl, ?_⟩; conv => whnf) | (apply wMulS.mk; (first | exact mul_l (by decide) (by decide) | exact mul_r (by decide) (by decide) | exact mul_ok (by l_ints) (by l_ints) (by decide)); conv => whnf) | (refine ⟨⟨by decide, by decide, by decide⟩, ?_⟩; conv => whnf) | (refine ⟨⟨by decide, by decide, by omega⟩, ?_⟩; conv => whnf) | (refine ⟨small_sz (Nat.le_of_ble_eq_true rfl), ?_⟩; conv => whnf) | fail))
      exact fin
    have hd : ((ws.map wtD).length : Int) < 12 := of_decide_eq_true hd
    have hd : ws.length < 12 := by simp at hd; omega
    have hat : at_ < 61 ∧ at_ < ns.length := ⟨Int.lt_of_lt_of_le hc hmin.1, Int.lt_of_lt_of_le hc hmin.2⟩
    obtain ⟨x, hx, a1⟩ := atI_maps (f := PyData.int) (xs := ns) (i := at_) (by omega) (by omega)
    conv => whnf
    rw [a1]
    conv => whnf
    refine dr x 7 most _ ⟨by decide, by decide, by omega⟩ fun sz hs1 hs2 => ?_
    ((conv => whnf); repeat' (first | (refine wIf_tt ?_; conv => whnf) | (refine wIf_ff ?_; conv => whnf) | (refine wIf.mk (fun hif => (have hif := of_decide_eq_true hif; ?_)) (fun hif => (have hif := of_decide_eq_false hif; ?_)) <;> (conv => whnf)) | (refine wIf_not ?_) | (refine ⟨(by decide : (_ : Int) ≠ 0), fun w _ hw => ?_⟩; replace hw := hw (by decide); conv => whnf) | (refine ⟨(by decide : (_ : Int) ≠ 0), div_lit (by decide), fun w _ hw => ?_⟩; replace hw := hw (by decide); conv => whnf) | (refine eq_rD ?_; conv => whnf) | (refine eq_ts ?_; conv => whnf) | (refine ne_ts ?_; conv => whnf) | (refine ne_rD ?_; conv => whnf) | (refine eq_vD ?_; conv => whnf) | (refine ne_vD ?_; conv => whnf) | (refine ⟨isi_ok rfl, ?_⟩; conv => whnf) | (apply wMulS.mk; (first | exact mul_l (by decide) (by decide) | exact mul_r (by decide) (by decide) | exact mul_ok (by l_ints) (by l_ints) (by decide)); conv => whnf) | (refine ⟨⟨by decide, by decide, by decide⟩, ?_⟩; conv => whnf) | (refine ⟨⟨by decide, by decide, by omega⟩, ?_⟩; conv => whnf) | (refine ⟨small_sz (Nat.le_of_ble_eq_true rfl), ?_⟩; conv => whnf) | fail))
    obtain ⟨j, hj⟩ : ∃ j, j = (fun i j : Int => if j < i then j else i) (at_ + (1 + sz)) 61 := ⟨_, rfl⟩
    have hj1 : at_ + 1 ≤ j ∧ j - at_ ≤ 12 := by
      rw [hj]
      show _ ≤ (if (61 : Int) < _ then _ else _) ∧ (if (61 : Int) < _ then _ else _) - at_ ≤ 12
      split <;> omega
    rw [← hj]
    obtain ⟨cs, ec, lc, _⟩ := cut_le (f := PyData.int) ns at_ j (by omega) (by omega)
    have lc0 : cs ≠ [] := by
      obtain ⟨at0, rfl⟩ := Int.eq_ofNat_of_zero_le (show 0 ≤ at_ by omega)
      obtain ⟨j0, rfl⟩ := Int.eq_ofNat_of_zero_le (show 0 ≤ j by omega)
      have := cut_gen (ns.map PyData.int) at0 j0
      intro h
      subst h
      have h5 := congrArg List.length (ec.symm.trans this)
      rw [List.length_take, List.length_drop, List.length_map, List.length_map] at h5
      simp only [List.length_nil] at h5
      omega
    rw [ec]
    have vv : ∀ (c : Int) (W : R → Prop) {X : Nat → Prop}, (∀ v, VB 140 v → W (.d (vD v))) → G 44 [.int c, .int far, lineD (some (z2 - 3, z3 - 3))] W X := fun c W _ h => gC g44 ⟨c, far, (some (z2 - 3, z3 - 3)), rfl, by omega, by omega, hLL, h⟩
    refine lc_each (t := .nm 9) PyData.int vD (VB 140) cs (fun y _ k hk => ?_) fun vs hl hv => ?_
    · conv => whnf
      refine vv _ _ fun v1 hv1 => ?_
      conv => whnf
      exact hk _ hv1
    have ne : vs ≠ [] := by intro h; subst h; exact lc0 (List.length_eq_zero_iff.mp hl.symm)
    ((conv => whnf); repeat' (first | (rw [a1]; conv => whnf) | (refine dr _ _ _ _ (by decide) fun z hz1 hz2 => ?_; conv => whnf) | (refine vv _ _ fun v1 hv1 => ?_; conv => whnf) | (refine wIf_tt ?_; conv => whnf) | (refine wIf_ff ?_; conv => whnf) | (refine wIf.mk (fun hif => (have hif := of_decide_eq_true hif; ?_)) (fun hif => (have hif := of_decide_eq_false hif; ?_)) <;> (conv => whnf)) | (refine wIf_not ?_) | (refine ⟨(by decide : (_ : Int) ≠ 0), fun w _ hw => ?_⟩; replace hw := hw (by decide); conv => whnf) | (refine ⟨(by decide : (_ : Int) ≠ 0), div_lit (by decide), fun w _ hw => ?_⟩; replace hw := hw (by decide); conv => whnf) | (refine eq_rD ?_; conv => whnf) | (refine eq_ts ?_; conv => whnf) | (refine ne_ts ?_; conv => whnf) | (refine ne_rD ?_; conv => whnf) | (refine eq_vD ?_; conv => whnf) | (refine ne_vD ?_; conv => whnf) | (refine ⟨isi_ok rfl, ?_⟩; conv => whnf) | (apply wMulS.mk; (first | exact mul_l (by decide) (by decide) | exact mul_r (by decide) (by decide) | exact mul_ok (by l_ints) (by l_ints) (by decide)); conv => whnf) | (refine ⟨⟨by decide, by decide, by decide⟩, ?_⟩; conv => whnf) | (refine ⟨⟨by decide, by decide, by omega⟩, ?_⟩; conv => whnf) | (refine ⟨small_sz (Nat.le_of_ble_eq_true rfl), ?_⟩; conv => whnf) | fail))
    · refine ⟨by simp; exact small_lt (by omega), ?_⟩
      conv => whnf
      refine ⟨_, ?_, _, ws ++ [(vs, v1)], _, _, _, _, ?_, rfl, by simp; omega, fun w hw => ?_, by rw [List.map_append]; rfl⟩
      · omega
      · omega
      · rcases List.mem_append.mp hw with h | h
        · exact h3 w h
        · rw [List.mem_singleton.mp h]
          exact ⟨ne, by simp; omega, hv, hv1⟩
    · refine ⟨by simp; exact small_lt (by omega), ?_⟩
      conv => whnf
      refine ⟨_, ?_, _, ws ++ [(vs, (0, 0))], _, _, _, _, ?_, rfl, by simp; omega, fun w hw => ?_, by rw [List.map_append]; rfl⟩
      · omega
      · omega
      · rcases List.mem_append.mp hw with h | h
        · exact h3 w h
        · rw [List.mem_singleton.mp h]
          exact ⟨ne, by simp; omega, hv, ⟨(by decide : Bd 140 0), (by decide : Bd 140 0)⟩⟩
  · ((conv => whnf); repeat' (first | (refine wIf_tt ?_; conv => whnf) | (refine wIf_ff ?_; conv => whnf) | (refine wIf.mk (fun hif => (have hif := of_decide_eq_true hif; ?_)) (fun hif => (have hif := of_decide_eq_false hif; ?_)) <;> (conv => whnf)) | (refine wIf_not ?_) | (refine ⟨(by decide : (_ : Int) ≠ 0), fun w _ hw => ?_⟩; replace hw := hw (by decide); conv => whnf) | (refine ⟨(by decide : (_ : Int) ≠ 0), div_lit (by decide), fun w _ hw => ?_⟩; replace hw := hw (by decide); conv => whnf) | (refine eq_rD ?_; conv => whnf) | (refine eq_ts ?_; conv => whnf) | (refine ne_ts ?_; conv => whnf) | (refine ne_rD ?_; conv => whnf) | (refine eq_vD ?_; conv => whnf) | (refine ne_vD ?_; conv => whnf) | (refine ⟨isi_ok rfl, ?_⟩; conv => whnf) | (apply wMulS.mk; (first | exact mul_l (by decide) (by decide) | exact mul_r (by decide) (by decide) | exact mul_ok (by l_ints) (by l_ints) (by decide)); conv => whnf) | (refine ⟨⟨by decide, by decide, by decide⟩, ?_⟩; conv => whnf) | (refine ⟨⟨by decide, by decide, by omega⟩, ?_⟩; conv => whnf) | (refine ⟨small_sz (Nat.le_of_ble_eq_true rfl), ?_⟩; conv => whnf) | fail))
    refine dr _ 8 4 _ (by decide) fun z4 hz41 hz42 => ?_
    ((conv => whnf); repeat' (first | (refine wIf_tt ?_; conv => whnf) | (refine wIf_ff ?_; conv => whnf) | (refine wIf.mk (fun hif => (have hif := of_decide_eq_true hif; ?_)) (fun hif => (have hif := of_decide_eq_false hif; ?_)) <;> (conv => whnf)) | (refine wIf_not ?_) | (refine ⟨(by decide : (_ : Int) ≠ 0), fun w _ hw => ?_⟩; replace hw := hw (by decide); conv => whnf) | (refine ⟨(by decide : (_ : Int) ≠ 0), div_lit (by decide), fun w _ hw => ?_⟩; replace hw := hw (by decide); conv => whnf) | (refine eq_rD ?_; conv => whnf) | (refine eq_ts ?_; conv => whnf) | (refine ne_ts ?_; conv => whnf) | (refine ne_rD ?_; conv => whnf) | (refine eq_vD ?_; conv => whnf) | (refine ne_vD ?_; conv => whnf) | (refine ⟨isi_ok rfl, ?_⟩; conv => whnf) | (apply wMulS.mk; (first | exact mul_l (by decide) (by decide) | exact mul_r (by decide) (by decide) | exact mul_ok (by l_ints) (by l_ints) (by decide)); conv => whnf) | (refine ⟨⟨by decide, by decide, by decide⟩, ?_⟩; conv => whnf) | (refine ⟨⟨by decide, by decide, by omega⟩, ?_⟩; conv => whnf) | (refine ⟨small_sz (Nat.le_of_ble_eq_true rfl), ?_⟩; conv => whnf) | fail))
    have hLL : ∀ v, (none : Option Vec) = some v → VB 10 v := fun v h => by cases h
    obtain ⟨most, e2, hm⟩ := pick4i (i := z4) (a := 3) (b := 3) (c := 5) (d := 12) (by assumption) (by assumption)
    have hm2 : 3 ≤ most ∧ most ≤ 12 := by omega
    rw [e2]
    ((conv => whnf); repeat' (first | (refine wIf_tt ?_; conv => whnf) | (refine wIf_ff ?_; conv => whnf) | (refine wIf.mk (fun hif => (have hif := of_decide_eq_true hif; ?_)) (fun hif => (have hif := of_decide_eq_false hif; ?_)) <;> (conv => whnf)) | (refine wIf_not ?_) | (refine ⟨(by decide : (_ : Int) ≠ 0), fun w _ hw => ?_⟩; replace hw := hw (by decide); conv => whnf) | (refine ⟨(by decide : (_ : Int) ≠ 0), div_lit (by decide), fun w _ hw => ?_⟩; replace hw := hw (by decide); conv => whnf) | (refine eq_rD ?_; conv => whnf) | (refine eq_ts ?_; conv => whnf) | (refine ne_ts ?_; conv => whnf) | (refine ne_rD ?_; conv => whnf) | (refine eq_vD ?_; conv => whnf) | (refine ne_vD ?_; conv => whnf) | (refine ⟨isi_ok rfl, ?_⟩; conv => whnf) | (apply wMulS.mk; (first | exact mul_l (by decide) (by decide) | exact mul_r (by decide) (by decide) | exact mul_ok (by l_ints) (by l_ints) (by decide)); conv => whnf) | (refine ⟨⟨by decide, by decide, by decide⟩, ?_⟩; conv => whnf) | (refine ⟨⟨by decide, by decide, by omega⟩, ?_⟩; conv => whnf) | (refine ⟨small_sz (Nat.le_of_ble_eq_true rfl), ?_⟩; conv => whnf) | fail))
    refine ⟨fun n ρ => ∃ (at_ : Int) (ws : List Wt) (a b c d : Option DL.R), 1 ≤ at_ ∧ n = (61 - at_).toNat ∧ ws.length ≤ 12 ∧ (∀ w ∈ ws, WtOk 140 12 w) ∧ ρ = [some (.d (.list (ns.map .int))), some (.d (.int base)), some (.d (.int far)), some (.d (lineD none)), some (.d (.int most)), some (.l (ws.map wtD) true), some (.d (.int at_)), a, b, c, d], ⟨_, 1, [], none, none, none, none, by omega, rfl, by simp, by simp, rfl⟩, ?_⟩
    rintro n ρ ⟨at_, ws, a, b, c, d, h1, rfl, h2, h3, rfl⟩
    have fin : Q (.d (.tuple (ws.map wtD))) := q ws h2 h3
    have hlen : ((ns.map PyData.int).length : Int) = ns.length := by simp
    have hmin : (if (61 : Int) < ((ns.map PyData.int).length : Int) then (61 : Int) else ((ns.map PyData.int).length : Int)) ≤ 61 ∧ (if (61 : Int) < ((ns.map PyData.int).length : Int) then (61 : Int) else ((ns.map PyData.int).length : Int)) ≤ ns.length := by split <;> omega
    conv => whnf
    refine wIf.mk (fun hc => ?_) (fun hc => ?_)
    case refine_2 =>
      ((conv => whnf); repeat' (first | (refine wIf_tt ?_; conv => whnf) | (refine wIf_ff ?_; conv => whnf) | (refine wIf.mk (fun hif => (have hif := of_decide_eq_true hif; ?_)) (fun hif => (have hif := of_decide_eq_false hif; ?_)) <;> (conv => whnf)) | (refine wIf_not ?_) | (refine ⟨(by decide : (_ : Int) ≠ 0), fun w _ hw => ?_⟩; replace hw := hw (by decide); conv => whnf) | (refine ⟨(by decide : (_ : Int) ≠ 0), div_lit (by decide), fun w _ hw => ?_⟩; replace hw := hw (by decide); conv => whnf) | (refine eq_rD ?_; conv => whnf) | (refine eq_ts ?_; conv => whnf) | (refine ne_ts ?_; conv => whnf) | (refine ne_rD ?_; conv => whnf) | (refine eq_vD ?_; conv => whnf) | (refine ne_vD ?_; conv => whnf) | (refine ⟨isi_ok rfl, ?_⟩; conv => whnf) | (apply wMulS.mk; (first | exact mul_l (by decide) (by decide) | exact mul_r (by decide) (by decide) | exact mul_ok (by l_ints) (by l_ints) (by decide)); conv => whnf) | (refine ⟨⟨by decide, by decide, by decide⟩, ?_⟩; conv => whnf) | (refine ⟨⟨by decide, by decide, by omega⟩, ?_⟩; conv => whnf) | (refine ⟨small_sz (Nat.le_of_ble_eq_true rfl), ?_⟩; conv => whnf) | fail))
      exact fin
    have hc : at_ < _ := of_decide_eq_true hc
    conv => whnf
    refine wIf.mk (fun hd => ?_) (fun hd => ?_)
    case refine_2 =>
      ((conv => whnf); repeat' (first | (refine wIf_tt ?_; conv => whnf) | (refine wIf_ff ?_; conv => whnf) | (refine wIf.mk (fun hif => (have hif := of_decide_eq_true hif; ?_)) (fun hif => (have hif := of_decide_eq_false hif; ?_)) <;> (conv => whnf)) | (refine wIf_not ?_) | (refine ⟨(by decide : (_ : Int) ≠ 0), fun w _ hw => ?_⟩; replace hw := hw (by decide); conv => whnf) | (refine ⟨(by decide : (_ : Int) ≠ 0), div_lit (by decide), fun w _ hw => ?_⟩; replace hw := hw (by decide); conv => whnf) | (refine eq_rD ?_; conv => whnf) | (refine eq_ts ?_; conv => whnf) | (refine ne_ts ?_; conv => whnf) | (refine ne_rD ?_; conv => whnf) | (refine eq_vD ?_; conv => whnf) | (refine ne_vD ?_; conv => whnf) | (refine ⟨isi_ok rfl, ?_⟩; conv => whnf) | (apply wMulS.mk; (first | exact mul_l (by decide) (by decide) | exact mul_r (by decide) (by decide) | exact mul_ok (by l_ints) (by l_ints) (by decide)); conv => whnf) | (refine ⟨⟨by decide, by decide, by decide⟩, ?_⟩; conv => whnf) | (refine ⟨⟨by decide, by decide, by omega⟩, ?_⟩; conv => whnf) | (refine ⟨small_sz (Nat.le_of_ble_eq_true rfl), ?_⟩; conv => whnf) | fail))
      exact fin
    have hd : ((ws.map wtD).length : Int) < 12 := of_decide_eq_true hd
    have hd : ws.length < 12 := by simp at hd; omega
    have hat : at_ < 61 ∧ at_ < ns.length := ⟨Int.lt_of_lt_of_le hc hmin.1, Int.lt_of_lt_of_le hc hmin.2⟩
    obtain ⟨x, hx, a1⟩ := atI_maps (f := PyData.int) (xs := ns) (i := at_) (by omega) (by omega)
    conv => whnf
    rw [a1]
    conv => whnf
    refine dr x 7 most _ ⟨by decide, by decide, by omega⟩ fun sz hs1 hs2 => ?_
    ((conv => whnf); repeat' (first | (refine wIf_tt ?_; conv => whnf) | (refine wIf_ff ?_; conv => whnf) | (refine wIf.mk (fun hif => (have hif := of_decide_eq_true hif; ?_)) (fun hif => (have hif := of_decide_eq_false hif; ?_)) <;> (conv => whnf)) | (refine wIf_not ?_) | (refine ⟨(by decide : (_ : Int) ≠ 0), fun w _ hw => ?_⟩; replace hw := hw (by decide); conv => whnf) | (refine ⟨(by decide : (_ : Int) ≠ 0), div_lit (by decide), fun w _ hw => ?_⟩; replace hw := hw (by decide); conv => whnf) | (refine eq_rD ?_; conv => whnf) | (refine eq_ts ?_; conv => whnf) | (refine ne_ts ?_; conv => whnf) | (refine ne_rD ?_; conv => whnf) | (refine eq_vD ?_; conv => whnf) | (refine ne_vD ?_; conv => whnf) | (refine ⟨isi_ok rfl, ?_⟩; conv => whnf) | (apply wMulS.mk; (first | exact mul_l (by decide) (by decide) | exact mul_r (by decide) (by decide) | exact mul_ok (by l_ints) (by l_ints) (by decide)); conv => whnf) | (refine ⟨⟨by decide, by decide, by decide⟩, ?_⟩; conv => whnf) | (refine ⟨⟨by decide, by decide, by omega⟩, ?_⟩; conv => whnf) | (refine ⟨small_sz (Nat.le_of_ble_eq_true rfl), ?_⟩; conv => whnf) | fail))
    obtain ⟨j, hj⟩ : ∃ j, j = (fun i j : Int => if j < i then j else i) (at_ + (1 + sz)) 61 := ⟨_, rfl⟩
    have hj1 : at_ + 1 ≤ j ∧ j - at_ ≤ 12 := by
      rw [hj]
      show _ ≤ (if (61 : Int) < _ then _ else _) ∧ (if (61 : Int) < _ then _ else _) - at_ ≤ 12
      split <;> omega
    rw [← hj]
    obtain ⟨cs, ec, lc, _⟩ := cut_le (f := PyData.int) ns at_ j (by omega) (by omega)
    have lc0 : cs ≠ [] := by
      obtain ⟨at0, rfl⟩ := Int.eq_ofNat_of_zero_le (show 0 ≤ at_ by omega)
      obtain ⟨j0, rfl⟩ := Int.eq_ofNat_of_zero_le (show 0 ≤ j by omega)
      have := cut_gen (ns.map PyData.int) at0 j0
      intro h
      subst h
      have h5 := congrArg List.length (ec.symm.trans this)
      rw [List.length_take, List.length_drop, List.length_map, List.length_map] at h5
      simp only [List.length_nil] at h5
      omega
    rw [ec]
    have vv : ∀ (c : Int) (W : R → Prop) {X : Nat → Prop}, (∀ v, VB 140 v → W (.d (vD v))) → G 44 [.int c, .int far, lineD none] W X := fun c W _ h => gC g44 ⟨c, far, none, rfl, by omega, by omega, hLL, h⟩
    refine lc_each (t := .nm 9) PyData.int vD (VB 140) cs (fun y _ k hk => ?_) fun vs hl hv => ?_
    · conv => whnf
      refine vv _ _ fun v1 hv1 => ?_
      conv => whnf
      exact hk _ hv1
    have ne : vs ≠ [] := by intro h; subst h; exact lc0 (List.length_eq_zero_iff.mp hl.symm)
    ((conv => whnf); repeat' (first | (rw [a1]; conv => whnf) | (refine dr _ _ _ _ (by decide) fun z hz1 hz2 => ?_; conv => whnf) | (refine vv _ _ fun v1 hv1 => ?_; conv => whnf) | (refine wIf_tt ?_; conv => whnf) | (refine wIf_ff ?_; conv => whnf) | (refine wIf.mk (fun hif => (have hif := of_decide_eq_true hif; ?_)) (fun hif => (have hif := of_decide_eq_false hif; ?_)) <;> (conv => whnf)) | (refine wIf_not ?_) | (refine ⟨(by decide : (_ : Int) ≠ 0), fun w _ hw => ?_⟩; replace hw := hw (by decide); conv => whnf) | (refine ⟨(by decide : (_ : Int) ≠ 0), div_lit (by decide), fun w _ hw => ?_⟩; replace hw := hw (by decide); conv => whnf) | (refine eq_rD ?_; conv => whnf) | (refine eq_ts ?_; conv => whnf) | (refine ne_ts ?_; conv => whnf) | (refine ne_rD ?_; conv => whnf) | (refine eq_vD ?_; conv => whnf) | (refine ne_vD ?_; conv => whnf) | (refine ⟨isi_ok rfl, ?_⟩; conv => whnf) | (apply wMulS.mk; (first | exact mul_l (by decide) (by decide) | exact mul_r (by decide) (by decide) | exact mul_ok (by l_ints) (by l_ints) (by decide)); conv => whnf) | (refine ⟨⟨by decide, by decide, by decide⟩, ?_⟩; conv => whnf) | (refine ⟨⟨by decide, by decide, by omega⟩, ?_⟩; conv => whnf) | (refine ⟨small_sz (Nat.le_of_ble_eq_true rfl), ?_⟩; conv => whnf) | fail))
    · refine ⟨by simp; exact small_lt (by omega), ?_⟩
      conv => whnf
      refine ⟨_, ?_, _, ws ++ [(vs, v1)], _, _, _, _, ?_, rfl, by simp; omega, fun w hw => ?_, by rw [List.map_append]; rfl⟩
      · omega
      · omega
      · rcases List.mem_append.mp hw with h | h
        · exact h3 w h
        · rw [List.mem_singleton.mp h]
          exact ⟨ne, by simp; omega, hv, hv1⟩
    · refine ⟨by simp; exact small_lt (by omega), ?_⟩
      conv => whnf
      refine ⟨_, ?_, _, ws ++ [(vs, (0, 0))], _, _, _, _, ?_, rfl, by simp; omega, fun w hw => ?_, by rw [List.map_append]; rfl⟩
      · omega
      · omega
      · rcases List.mem_append.mp hw with h | h
        · exact h3 w h
        · rw [List.mem_singleton.mp h]
          exact ⟨ne, by simp; omega, hv, ⟨(by decide : Bd 140 0), (by decide : Bd 140 0)⟩⟩
end DL
end
section
namespace DL
def m_law_mix : Ss := (.cons (.set 2 (.int 2305843009213693951)) (.cons (.set 3 (.bin .Mod (.bin .Mult (.bin .Add (.bin .Add (.bin .Mod (.v 0) (.v 2)) (.bin .Mult (.int 31) (.v 1))) (.int 7)) (.int 48271)) (.v 2))) (.cons (.ret (.bin .FloorDiv (.bin .Mod (.bin .Mult (.bin .Mod (.bin .Mult (.v 3) (.v 3)) (.v 2)) (.int 69621)) (.v 2)) (.int 7))) .nil)))
end DL
end
section
namespace DL
def m_law_same (c : Nat) : Ss := (.cons (.ifs (.isi (.v 1) "tuple") (.cons (.ifs (.or (.not (.isi (.v 0) "tuple")) (.cmp .NotEq (.bi .len (.cons (.v 0) .nil)) (.bi .len (.cons (.v 1) .nil)))) (.cons (.ret (.bl false)) .nil) .nil) (.cons (.for_ (.nm 2) (.rng1 (.bi .len (.cons (.v 1) .nil))) (.cons (.ifs (.not (.call c (.cons (.ix (.v 0) (.v 2)) (.cons (.ix (.v 1) (.v 2)) .nil)))) (.cons (.ret (.bl false)) .nil) .nil) .nil)) (.cons (.ret (.bl true)) .nil))) .nil) (.cons (.ifs (.isN (.v 1)) (.cons (.ret (.isN (.v 0))) .nil) .nil) (.cons (.ifs (.isi (.v 1) "str") (.cons (.ret (.and (.isi (.v 0) "str") (.cmp .Eq (.v 0) (.v 1)))) .nil) .nil) (.cons (.ifs (.or (.not (.isi (.v 0) "int")) (.cmp .NotEq (.isi (.v 0) "bool") (.isi (.v 1) "bool"))) (.cons (.ret (.bl false)) .nil) .nil) (.cons (.ret (.cmp .Eq (.v 0) (.v 1))) .nil)))))
end DL
end
section
namespace DL
def m_law_vector_3 : Ss := (.cons (.set 3 (.bin .Sub (.bin .Mod (.call 56 (.cons (.v 0) (.cons (.v 1) .nil))) (.bin .Add (.bin .Mult (.int 2) (.v 2)) (.int 1))) (.v 2))) (.cons (.ret (.tup (.cons (.v 3) (.cons (.bin .Sub (.bin .Mod (.call 56 (.cons (.v 0) (.cons (.bin .Add (.v 1) (.int 1)) .nil))) (.bin .Add (.bin .Mult (.int 2) (.v 2)) (.int 1))) (.v 2)) .nil)))) .nil))
end DL
end
section
namespace DL
def m_law_digits : Ss := (.cons (.set 2 (.bin .Add (.bin .Mult (.int 2) (.v 1)) (.int 1))) (.cons (.ret (.tup (.cons (.bin .Sub (.bin .Mod (.v 0) (.v 2)) (.v 1)) (.cons (.bin .Sub (.bin .Mod (.bin .FloorDiv (.v 0) (.v 2)) (.v 2)) (.v 1)) .nil)))) .nil))
end DL
end
section
namespace DL
def m_law_within : Ss := (.cons (.ret (.bi .max2 (.cons (.neg (.bin .Pow (.int 10) (.int 9))) (.cons (.bi .min2 (.cons (.bin .Pow (.int 10) (.int 9)) (.cons (.v 0) .nil))) .nil)))) .nil)
end DL
end
section
namespace DL
def m_law_wind_2 : Ss := (.cons (.set 2 (.call 58 (.cons (.ix (.v 0) (.int 0)) (.cons (.int 10) (.cons (.v 1) .nil))))) (.cons (.set 3 (.call 58 (.cons (.ix (.v 0) (.int 0)) (.cons (.int 20) (.cons (.int 3) .nil))))) (.cons (.set 4 (.bin .Mod (.call 56 (.cons (.ix (.v 0) (.int 0)) (.cons (.int 30) .nil))) (.int 6))) (.cons (.set 5 (.lst .nil)) (.cons (.for_ (.nm 6) (.ex (.v 0)) (.cons (.set 7 (.call 58 (.cons (.v 6) (.cons (.int 10) (.cons (.v 1) .nil))))) (.cons (.set 8 (.bin .Sub (.bin .Mod (.call 56 (.cons (.v 6) (.cons (.int 40) .nil))) (.int 7)) (.int 3))) (.cons (.ifs (.cmp .Eq (.v 4) (.int 4)) (.cons (.set 7 (.tup (.cons (.call 60 (.cons (.bin .Add (.ix (.v 2) (.int 0)) (.bin .Mult (.v 8) (.ix (.v 3) (.int 0)))) .nil)) (.cons (.call 60 (.cons (.bin .Add (.ix (.v 2) (.int 1)) (.bin .Mult (.v 8) (.ix (.v 3) (.int 1)))) .nil)) .nil)))) .nil) .nil) (.cons (.ifs (.cmp .Eq (.v 4) (.int 5)) (.cons (.set 7 (.v 2)) .nil) .nil) (.cons (.app 5 (.v 7)) .nil)))))) (.cons (.frz 5) (.cons (.ret (.bi .tuple1 (.cons (.v 5) .nil))) .nil)))))))
end DL
end
section
namespace DL
def m_law_far_off : Ss := (.cons (.ret (.bi .tuple1 (.cons (.lc (.tup (.cons (.bin .Mult (.bin .Mult (.ix (.v 1) (.int 0)) (.bin .Pow (.int 10) (.int 64))) (.bin .Pow (.int 10) (.int 64))) (.cons (.bin .Mult (.bin .Mult (.ix (.v 1) (.int 1)) (.bin .Pow (.int 10) (.int 64))) (.bin .Pow (.int 10) (.int 64))) .nil))) (.nm 1) (.ex (.v 0)) .nil [("heading", 1)]) .nil))) .nil)
end DL
end
section
namespace DL
def m_law_free_pairs : Ss := (.cons (.set 2 (.lst .nil)) (.cons (.set 3 (.int 0)) (.cons (.whl (.cmp .Lt (.v 3) (.bi .len (.cons (.v 0) .nil))) (.cons (.set 4 (.bin .Add (.int 1) (.bin .Mod (.ix (.v 0) (.v 3)) (.int 12)))) (.cons (.set 5 (.bin .Add (.sl (.v 0) (.cons (.bin .Add (.v 3) (.int 1)) .nil) (.cons (.bin .Add (.bin .Add (.v 3) (.int 1)) (.v 4)) .nil)) (.bin .Mult (.lst (.cons (.int 0) .nil)) (.bi .int1 (.cons (.cmp .Eq (.bin .Add (.v 3) (.int 1)) (.bi .len (.cons (.v 0) .nil))) .nil))))) (.cons (.frz 5) (.cons (.app 2 (.tup (.cons (.bi .tuple1 (.cons (.lc (.call 59 (.cons (.v 6) (.cons (.v 1) .nil))) (.nm 6) (.ex (.v 5)) .nil [("cell", 6)]) .nil)) (.cons (.bin .FloorDiv (.ix (.v 0) (.v 3)) (.int 12)) .nil)))) (.cons (.set 3 (.bin .Add (.bin .Add (.v 3) (.int 1)) (.v 4))) .nil)))))) (.cons (.frz 2) (.cons (.frz 2) (.cons (.ret (.v 2)) .nil))))))
end DL
end
section
namespace DL
def m_law_pairs : Ss := (.cons (.set 1 (.call 42 (.cons (.v 0) (.cons (.int 0) .nil)))) (.cons (.set 2 (.bin .Add (.sl (.v 0) (.cons (.int 1) .nil) .nil) (.bin .Mult (.lst (.cons (.int 0) .nil)) (.bi .int1 (.cons (.cmp .Lt (.bi .len (.cons (.v 0) .nil)) (.int 2)) .nil))))) (.cons (.frz 2) (.cons (.ifs (.cmp .Eq (.bin .Mod (.v 1) (.int 2)) (.int 1)) (.cons (.ret (.call 63 (.cons (.v 2) (.cons (.ix (.lst (.cons (.int 12) (.cons (.bin .Pow (.int 10) (.int 9)) (.cons (.bin .Pow (.int 10) (.int 60)) .nil)))) (.bin .Mod (.bin .FloorDiv (.v 1) (.int 2)) (.int 3))) .nil)))) .nil) .nil) (.cons (.set 3 (.ix (.lst (.cons (.int 3) (.cons (.int 3) (.cons (.int 12) (.cons (.int 12) (.cons (.int 40) (.cons (.bin .Pow (.int 10) (.int 9)) .nil))))))) (.bin .Mod (.call 56 (.cons (.v 1) (.cons (.int 1) .nil))) (.int 6)))) (.cons (.set 4 (.lst .nil)) (.cons (.set 5 (.int 0)) (.cons (.whl (.cmp .Lt (.v 5) (.bi .len (.cons (.v 2) .nil))) (.cons (.set 6 (.bin .Add (.int 1) (.bin .Mod (.call 56 (.cons (.ix (.v 2) (.v 5)) (.cons (.int 50) .nil))) (.ix (.lst (.cons (.int 12) (.cons (.int 4) (.cons (.int 3) (.cons (.int 5) .nil))))) (.bin .Mod (.call 56 (.cons (.ix (.v 2) (.v 5)) (.cons (.int 51) .nil))) (.int 4)))))) (.cons (.app 4 (.tup (.cons (.call 61 (.cons (.sl (.v 2) (.cons (.v 5) .nil) (.cons (.bin .Add (.v 5) (.v 6)) .nil)) (.cons (.v 3) .nil))) (.cons (.ix (.v 2) (.v 5)) .nil)))) (.cons (.set 5 (.bin .Add (.v 5) (.v 6))) .nil)))) (.cons (.frz 4) (.cons (.ifs (.cmp .Eq (.bin .Mod (.call 56 (.cons (.ix (.v 2) (.int 0)) (.cons (.int 52) .nil))) (.int 4)) (.int 1)) (.cons (.set 4 (.bin .Add (.lst (.cons (.tup (.cons (.call 61 (.cons (.v 2) (.cons (.v 3) .nil))) (.cons (.bin .Add (.ix (.v 2) (.int 0)) (.int 1)) .nil))) .nil)) (.v 4))) (.cons (.frz 4) .nil)) .nil) (.cons (.ifs (.cmp .Eq (.bin .Mod (.call 56 (.cons (.ix (.v 2) (.int 0)) (.cons (.int 53) .nil))) (.int 8)) (.int 1)) (.cons (.set 4 (.lc (.tup (.cons (.call 62 (.cons (.ix (.v 7) (.int 0)) .nil)) (.cons (.ix (.v 7) (.int 1)) .nil))) (.nm 7) (.ex (.v 4)) .nil [("pair", 7)])) (.cons (.frz 4) .nil)) .nil) (.cons (.frz 4) (.cons (.ret (.v 4)) .nil)))))))))))))
end DL
end
section
set_option maxRecDepth 100000
set_option maxHeartbeats 4000000
set_option exponentiation.threshold 100000
namespace DL
open PySem L2
local macro_rules | `(tactic| l_ints) => `(tactic| first | (assumption) | (apply Bd.neg; l_ints) | (apply Bd.mul <;> l_ints) | (exact bd40 (by omega) (by omega)) | (apply Bd.add <;> l_ints) | (apply Bd.sub <;> l_ints) | (exact bd130 (by omega) (by omega)) | (exact bd210 (by omega) (by omega)) | (exact bd_self _) | fail)
def sp_law_mix : DSp := fun ds Q X => ∃ (a k : Int), ds = [.int a, .int k] ∧ 0 ≤ k ∧ k ≤ 1000000 ∧ ∀ z : Int, 0 ≤ z → z < 2305843009213693951 → Q (.d (.int z))
theorem p_law_mix {G : Nat → DSp} : FnW G 4 2 m_law_mix sp_law_mix := by
  intro ds Q X ⟨a, k, e, h1, h2, q⟩
  subst e
  refine ⟨rfl, ?_⟩
  ((conv => whnf); repeat' (first | (refine wIf_tt ?_; conv => whnf) | (refine wIf_ff ?_; conv => whnf) | (refine wIf.mk (fun hif => (have hif := of_decide_eq_true hif; ?_)) (fun hif => (have hif := of_decide_eq_false hif; ?_)) <;> (conv => whnf)) | (refine wIf_not ?_) | (refine ⟨(by decide : (_ : Int) ≠ 0), fun w _ hw => ?_⟩; replace hw := hw (by decide); conv => whnf) | (refine ⟨(by decide : (_ : Int) ≠ 0), div_lit (by decide), fun w _ hw => ?_⟩; replace hw := hw (by decide); conv => whnf) | (refine eq_rD ?_; conv => whnf) | (refine eq_ts ?_; conv => whnf) | (refine ne_ts ?_; conv => whnf) | (refine ne_rD ?_; conv => whnf) | (refine eq_vD ?_; conv => whnf) | (refine ne_vD ?_; conv => whnf) | (refine ⟨isi_ok rfl, ?_⟩; conv => whnf) | (apply wMulS.mk; (first | exact mul_l (by decide) (by decide) | exact mul_r (by decide) (by decide) | exact mul_ok (by l_ints) (by l_ints) (by decide)); conv => whnf) | (refine ⟨⟨by decide, by decide, by decide⟩, ?_⟩; conv => whnf) | (refine ⟨⟨by decide, by decide, by omega⟩, ?_⟩; conv => whnf) | (refine ⟨small_sz (Nat.le_of_ble_eq_true rfl), ?_⟩; conv => whnf) | fail))
  exact q _ (by omega) (by omega)
def okS : Nat → D → Prop
  | 0, _ => False
  | n + 1, .tuple ds => ds.length ≤ 100000 ∧ ∀ d ∈ ds, okS n d
  | _ + 1, .int _ => True
  | _ + 1, .none => True
  | _ + 1, .bool _ => True
  | _ + 1, .str _ => True
  | _ + 1, _ => False
def sp_law_same (n : Nat) : DSp := fun ds Q X => ∃ d, ds = [d, d] ∧ okS n d ∧ Q (.d (.bool true))
theorem no_law_same : ∀ ds Q X, ¬ sp_law_same 0 ds Q X := fun _ _ _ ⟨_, _, h, _⟩ => h
theorem p_law_same {G : Nat → DSp} {c n : Nat} (g : G c = sp_law_same n) : FnW G 3 2 (m_law_same c) (sp_law_same (n + 1)) := by
  intro ds Q X ⟨d, e, h, q⟩
  subst e
  refine ⟨rfl, ?_⟩
  have tt : ∀ b : Bool, b = true → Q (.d (.bool b)) := fun b h => by rw [h]; exact q
  cases d with
  | int i =>
    ((conv => whnf); repeat' (first | (refine wIf_tt ?_; conv => whnf) | (refine wIf_ff ?_; conv => whnf) | (refine wIf.mk (fun hif => (have hif := of_decide_eq_true hif; ?_)) (fun hif => (have hif := of_decide_eq_false hif; ?_)) <;> (conv => whnf)) | (refine wIf_not ?_) | (refine ⟨(by decide : (_ : Int) ≠ 0), fun w _ hw => ?_⟩; replace hw := hw (by decide); conv => whnf) | (refine ⟨(by decide : (_ : Int) ≠ 0), div_lit (by decide), fun w _ hw => ?_⟩; replace hw := hw (by decide); conv => whnf) | (refine eq_rD ?_; conv => whnf) | (refine eq_ts ?_; conv => whnf) | (refine ne_ts ?_; conv => whnf) | (refine ne_rD ?_; conv => whnf) | (refine eq_vD ?_; conv => whnf) | (refine ne_vD ?_; conv => whnf) | (refine ⟨isi_ok rfl, ?_⟩; conv => whnf) | (apply wMulS.mk; (first | exact mul_l (by decide) (by decide) | exact mul_r (by decide) (by decide) | exact mul_ok (by l_ints) (by l_ints) (by decide)); conv => whnf) | (refine ⟨⟨by decide, by decide, by decide⟩, ?_⟩; conv => whnf) | (refine ⟨⟨by decide, by decide, by omega⟩, ?_⟩; conv => whnf) | (refine ⟨small_sz (Nat.le_of_ble_eq_true rfl), ?_⟩; conv => whnf) | fail))
    exact tt _ (decide_eq_true rfl)
  | none =>
    ((conv => whnf); repeat' (first | (refine wIf_tt ?_; conv => whnf) | (refine wIf_ff ?_; conv => whnf) | (refine wIf.mk (fun hif => (have hif := of_decide_eq_true hif; ?_)) (fun hif => (have hif := of_decide_eq_false hif; ?_)) <;> (conv => whnf)) | (refine wIf_not ?_) | (refine ⟨(by decide : (_ : Int) ≠ 0), fun w _ hw => ?_⟩; replace hw := hw (by decide); conv => whnf) | (refine ⟨(by decide : (_ : Int) ≠ 0), div_lit (by decide), fun w _ hw => ?_⟩; replace hw := hw (by decide); conv => whnf) | (refine eq_rD ?_; conv => whnf) | (refine eq_ts ?_; conv => whnf) | (refine ne_ts ?_; conv => whnf) | (refine ne_rD ?_; conv => whnf) | (refine eq_vD ?_; conv => whnf) | (refine ne_vD ?_; conv => whnf) | (refine ⟨isi_ok rfl, ?_⟩; conv => whnf) | (apply wMulS.mk; (first | exact mul_l (by decide) (by decide) | exact mul_r (by decide) (by decide) | exact mul_ok (by l_ints) (by l_ints) (by decide)); conv => whnf) | (refine ⟨⟨by decide, by decide, by decide⟩, ?_⟩; conv => whnf) | (refine ⟨⟨by decide, by decide, by omega⟩, ?_⟩; conv => whnf) | (refine ⟨small_sz (Nat.le_of_ble_eq_true rfl), ?_⟩; conv => whnf) | fail))
    exact q
  | bool b =>
    ((conv => whnf); repeat' (first | (refine wIf_tt ?_; conv => whnf) | (refine wIf_ff ?_; conv => whnf) | (refine wIf.mk (fun hif => (have hif := of_decide_eq_true hif; ?_)) (fun hif => (have hif := of_decide_eq_false hif; ?_)) <;> (conv => whnf)) | (refine wIf_not ?_) | (refine ⟨(by decide : (_ : Int) ≠ 0), fun w _ hw => ?_⟩; replace hw := hw (by decide); conv => whnf) | (refine ⟨(by decide : (_ : Int) ≠ 0), div_lit (by decide), fun w _ hw => ?_⟩; replace hw := hw (by decide); conv => whnf) | (refine eq_rD ?_; conv => whnf) | (refine eq_ts ?_; conv => whnf) | (refine ne_ts ?_; conv => whnf) | (refine ne_rD ?_; conv => whnf) | (refine eq_vD ?_; conv => whnf) | (refine ne_vD ?_; conv => whnf) | (refine ⟨isi_ok rfl, ?_⟩; conv => whnf) | (apply wMulS.mk; (first | exact mul_l (by decide) (by decide) | exact mul_r (by decide) (by decide) | exact mul_ok (by l_ints) (by l_ints) (by decide)); conv => whnf) | (refine ⟨⟨by decide, by decide, by decide⟩, ?_⟩; conv => whnf) | (refine ⟨⟨by decide, by decide, by omega⟩, ?_⟩; conv => whnf) | (refine ⟨small_sz (Nat.le_of_ble_eq_true rfl), ?_⟩; conv => whnf) | fail))
    exact tt _ (decide_eq_true rfl)
  | str s =>
    ((conv => whnf); repeat' (first | (refine wIf_tt ?_; conv => whnf) | (refine wIf_ff ?_; conv => whnf) | (refine wIf.mk (fun hif => (have hif := of_decide_eq_true hif; ?_)) (fun hif => (have hif := of_decide_eq_false hif; ?_)) <;> (conv => whnf)) | (refine wIf_not ?_) | (refine ⟨(by decide : (_ : Int) ≠ 0), fun w _ hw => ?_⟩; replace hw := hw (by decide); conv => whnf) | (refine ⟨(by decide : (_ : Int) ≠ 0), div_lit (by decide), fun w _ hw => ?_⟩; replace hw := hw (by decide); conv => whnf) | (refine eq_rD ?_; conv => whnf) | (refine eq_ts ?_; conv => whnf) | (refine ne_ts ?_; conv => whnf) | (refine ne_rD ?_; conv => whnf) | (refine eq_vD ?_; conv => whnf) | (refine ne_vD ?_; conv => whnf) | (refine ⟨isi_ok rfl, ?_⟩; conv => whnf) | (apply wMulS.mk; (first | exact mul_l (by decide) (by decide) | exact mul_r (by decide) (by decide) | exact mul_ok (by l_ints) (by l_ints) (by decide)); conv => whnf) | (refine ⟨⟨by decide, by decide, by decide⟩, ?_⟩; conv => whnf) | (refine ⟨⟨by decide, by decide, by omega⟩, ?_⟩; conv => whnf) | (refine ⟨small_sz (Nat.le_of_ble_eq_true rfl), ?_⟩; conv => whnf) | fail))
    exact tt _ (decide_eq_true rfl)
  | tuple es =>
    obtain ⟨h0, h1⟩ := h
    ((conv => whnf); repeat' (first | (refine wIf_tt ?_; conv => whnf) | (refine wIf_ff ?_; conv => whnf) | (refine wIf.mk (fun hif => (have hif := of_decide_eq_true hif; ?_)) (fun hif => (have hif := of_decide_eq_false hif; ?_)) <;> (conv => whnf)) | (refine wIf_not ?_) | (refine ⟨(by decide : (_ : Int) ≠ 0), fun w _ hw => ?_⟩; replace hw := hw (by decide); conv => whnf) | (refine ⟨(by decide : (_ : Int) ≠ 0), div_lit (by decide), fun w _ hw => ?_⟩; replace hw := hw (by decide); conv => whnf) | (refine eq_rD ?_; conv => whnf) | (refine eq_ts ?_; conv => whnf) | (refine ne_ts ?_; conv => whnf) | (refine ne_rD ?_; conv => whnf) | (refine eq_vD ?_; conv => whnf) | (refine ne_vD ?_; conv => whnf) | (refine ⟨isi_ok rfl, ?_⟩; conv => whnf) | (apply wMulS.mk; (first | exact mul_l (by decide) (by decide) | exact mul_r (by decide) (by decide) | exact mul_ok (by l_ints) (by l_ints) (by decide)); conv => whnf) | (refine ⟨⟨by decide, by decide, by decide⟩, ?_⟩; conv => whnf) | (refine ⟨⟨by decide, by decide, by omega⟩, ?_⟩; conv => whnf) | (refine ⟨small_sz (Nat.le_of_ble_eq_true rfl), ?_⟩; conv => whnf) | fail))
    case refine_2 => exact (hif rfl).elim
    refine ⟨Int.ofNat_le.mpr (small_sz h0), by omega, ?_⟩
    conv => whnf
    refine ⟨rfl, ?_⟩
    refine rng_ind (fun i ρ => ∃ x : Option DL.R, ρ = [some (.d (.tuple es)), some (.d (.tuple es)), x]) _ ?_ ?_ _ ⟨_, rfl⟩
    · rintro ρ ⟨x, rfl⟩
      conv => whnf
      exact q
    · rintro i ρ hi ⟨x, rfl⟩ nx hnx
      simp at hi
      obtain ⟨d, a1, hd⟩ := atI_mem (ds := es) (i := (i : Int)) (by omega) (by omega)
      ((conv => whnf); repeat' (first | (rw [a1]; conv => whnf) | (refine gC g ⟨d, rfl, h1 d hd, ?_⟩; conv => whnf) | (refine wIf_tt ?_; conv => whnf) | (refine wIf_ff ?_; conv => whnf) | (refine wIf.mk (fun hif => (have hif := of_decide_eq_true hif; ?_)) (fun hif => (have hif := of_decide_eq_false hif; ?_)) <;> (conv => whnf)) | (refine wIf_not ?_) | (refine ⟨(by decide : (_ : Int) ≠ 0), fun w _ hw => ?_⟩; replace hw := hw (by decide); conv => whnf) | (refine ⟨(by decide : (_ : Int) ≠ 0), div_lit (by decide), fun w _ hw => ?_⟩; replace hw := hw (by decide); conv => whnf) | (refine eq_rD ?_; conv => whnf) | (refine eq_ts ?_; conv => whnf) | (refine ne_ts ?_; conv => whnf) | (refine ne_rD ?_; conv => whnf) | (refine eq_vD ?_; conv => whnf) | (refine ne_vD ?_; conv => whnf) | (refine ⟨isi_ok rfl, ?_⟩; conv => whnf) | (apply wMulS.mk; (first | exact mul_l (by decide) (by decide) | exact mul_r (by decide) (by decide) | exact mul_ok (by l_ints) (by l_ints) (by decide)); conv => whnf) | (refine ⟨⟨by decide, by decide, by decide⟩, ?_⟩; conv => whnf) | (refine ⟨⟨by decide, by decide, by omega⟩, ?_⟩; conv => whnf) | (refine ⟨small_sz (Nat.le_of_ble_eq_true rfl), ?_⟩; conv => whnf) | fail))
      exact hnx _ ⟨_, rfl⟩
  | _ => exact h.elim
def sp_law_vector_3 : DSp := fun ds Q X => ∃ (c k m : Int), ds = [.int c, .int k, .int m] ∧ 0 ≤ k ∧ k ≤ 100000 ∧ 0 ≤ m ∧ m ≤ 10 ^ 9 ∧ ∀ v : Vec, -m ≤ v.1 → v.1 ≤ m → -m ≤ v.2 → v.2 ≤ m → Q (.d (vD v))
theorem p_law_vector_3 {G : Nat → DSp} (g56 : G 56 = sp_law_mix) : FnW G 4 3 m_law_vector_3 sp_law_vector_3 := by
  intro ds Q X ⟨c, k, m, e, h1, h2, h3, h4, q⟩
  subst e
  refine ⟨rfl, ?_⟩
  have key : ∀ l r : Int, (0 < 2 * m + 1 → r = l % (2 * m + 1)) → 0 ≤ r ∧ r ≤ 2 * m := fun l r h => by
    have h := h (by omega)
    have a := Int.emod_nonneg l (show 2 * m + 1 ≠ 0 by omega)
    have b := Int.emod_lt_of_pos l (show 0 < 2 * m + 1 by omega)
    omega
  ((conv => whnf); repeat' (first | (refine gC g56 ⟨_, k, rfl, by omega, by omega, fun z hz1 hz2 => ?_⟩; conv => whnf) | (refine gC g56 ⟨_, k + 1, rfl, by omega, by omega, fun z hz1 hz2 => ?_⟩; conv => whnf) | (refine ⟨by omega, fun w _ hw => ?_⟩; replace hw := key _ _ hw; conv => whnf) | (refine wIf_tt ?_; conv => whnf) | (refine wIf_ff ?_; conv => whnf) | (refine wIf.mk (fun hif => (have hif := of_decide_eq_true hif; ?_)) (fun hif => (have hif := of_decide_eq_false hif; ?_)) <;> (conv => whnf)) | (refine wIf_not ?_) | (refine ⟨(by decide : (_ : Int) ≠ 0), fun w _ hw => ?_⟩; replace hw := hw (by decide); conv => whnf) | (refine ⟨(by decide : (_ : Int) ≠ 0), div_lit (by decide), fun w _ hw => ?_⟩; replace hw := hw (by decide); conv => whnf) | (refine eq_rD ?_; conv => whnf) | (refine eq_ts ?_; conv => whnf) | (refine ne_ts ?_; conv => whnf) | (refine ne_rD ?_; conv => whnf) | (refine eq_vD ?_; conv => whnf) | (refine ne_vD ?_; conv => whnf) | (refine ⟨isi_ok rfl, ?_⟩; conv => whnf) | (apply wMulS.mk; (first | exact mul_l (by decide) (by decide) | exact mul_r (by decide) (by decide) | exact mul_ok (by l_ints) (by l_ints) (by decide)); conv => whnf) | (refine ⟨⟨by decide, by decide, by decide⟩, ?_⟩; conv => whnf) | (refine ⟨⟨by decide, by decide, by omega⟩, ?_⟩; conv => whnf) | (refine ⟨small_sz (Nat.le_of_ble_eq_true rfl), ?_⟩; conv => whnf) | fail))
  exact q (_, _) (by omega) (by omega) (by omega) (by omega)
def sp_law_digits : DSp := fun ds Q X => ∃ (c f : Int), ds = [.int c, .int f] ∧ 0 ≤ f ∧ f ≤ 10 ^ 60 ∧ ∀ v, VB 210 v → Q (.d (vD v))
theorem p_law_digits {G : Nat → DSp} : FnW G 3 2 m_law_digits sp_law_digits := by
  intro ds Q X ⟨c, f, e, h1, h2, q⟩
  subst e
  refine ⟨rfl, ?_⟩
  have bs : Bd 210 (2 * f + 1) := bd210 (by omega) (by omega)
  have key : ∀ l r : Int, (0 < 2 * f + 1 → r = l % (2 * f + 1)) → 0 ≤ r ∧ r ≤ 2 * f := fun l r h => by
    have h := h (by omega)
    have a := Int.emod_nonneg l (show 2 * f + 1 ≠ 0 by omega)
    have b := Int.emod_lt_of_pos l (show 0 < 2 * f + 1 by omega)
    omega
  ((conv => whnf); repeat' (first | (refine ⟨by omega, fun w _ hw => ?_⟩; replace hw := key _ _ hw; conv => whnf) | (refine ⟨by omega, div_ok bs (by decide), fun w _ _ => ?_⟩; conv => whnf) | (refine wIf_tt ?_; conv => whnf) | (refine wIf_ff ?_; conv => whnf) | (refine wIf.mk (fun hif => (have hif := of_decide_eq_true hif; ?_)) (fun hif => (have hif := of_decide_eq_false hif; ?_)) <;> (conv => whnf)) | (refine wIf_not ?_) | (refine ⟨(by decide : (_ : Int) ≠ 0), fun w _ hw => ?_⟩; replace hw := hw (by decide); conv => whnf) | (refine ⟨(by decide : (_ : Int) ≠ 0), div_lit (by decide), fun w _ hw => ?_⟩; replace hw := hw (by decide); conv => whnf) | (refine eq_rD ?_; conv => whnf) | (refine eq_ts ?_; conv => whnf) | (refine ne_ts ?_; conv => whnf) | (refine ne_rD ?_; conv => whnf) | (refine eq_vD ?_; conv => whnf) | (refine ne_vD ?_; conv => whnf) | (refine ⟨isi_ok rfl, ?_⟩; conv => whnf) | (apply wMulS.mk; (first | exact mul_l (by decide) (by decide) | exact mul_r (by decide) (by decide) | exact mul_ok (by l_ints) (by l_ints) (by decide)); conv => whnf) | (refine ⟨⟨by decide, by decide, by decide⟩, ?_⟩; conv => whnf) | (refine ⟨⟨by decide, by decide, by omega⟩, ?_⟩; conv => whnf) | (refine ⟨small_sz (Nat.le_of_ble_eq_true rfl), ?_⟩; conv => whnf) | fail))
  exact q (_, _) ⟨bd210 (by omega) (by omega), bd210 (by omega) (by omega)⟩
def sp_law_within : DSp := fun ds Q X => ∃ (c : Int), ds = [.int c] ∧ ∀ z : Int, -1000000000 ≤ z → z ≤ 1000000000 → Q (.d (.int z))
theorem p_law_within {G : Nat → DSp} : FnW G 1 1 m_law_within sp_law_within := by
  intro ds Q X ⟨c, e, q⟩
  subst e
  refine ⟨rfl, ?_⟩
  have hp : (10 : Int) ^ (9 : Int).toNat = 1000000000 := rfl
  ((conv => whnf); repeat' (first | (refine wIf_tt ?_; conv => whnf) | (refine wIf_ff ?_; conv => whnf) | (refine wIf.mk (fun hif => (have hif := of_decide_eq_true hif; ?_)) (fun hif => (have hif := of_decide_eq_false hif; ?_)) <;> (conv => whnf)) | (refine wIf_not ?_) | (refine ⟨(by decide : (_ : Int) ≠ 0), fun w _ hw => ?_⟩; replace hw := hw (by decide); conv => whnf) | (refine ⟨(by decide : (_ : Int) ≠ 0), div_lit (by decide), fun w _ hw => ?_⟩; replace hw := hw (by decide); conv => whnf) | (refine eq_rD ?_; conv => whnf) | (refine eq_ts ?_; conv => whnf) | (refine ne_ts ?_; conv => whnf) | (refine ne_rD ?_; conv => whnf) | (refine eq_vD ?_; conv => whnf) | (refine ne_vD ?_; conv => whnf) | (refine ⟨isi_ok rfl, ?_⟩; conv => whnf) | (apply wMulS.mk; (first | exact mul_l (by decide) (by decide) | exact mul_r (by decide) (by decide) | exact mul_ok (by l_ints) (by l_ints) (by decide)); conv => whnf) | (refine ⟨⟨by decide, by decide, by decide⟩, ?_⟩; conv => whnf) | (refine ⟨⟨by decide, by decide, by omega⟩, ?_⟩; conv => whnf) | (refine ⟨small_sz (Nat.le_of_ble_eq_true rfl), ?_⟩; conv => whnf) | fail))
  simp only [hp]
  refine q _ ?_ ?_ <;> (repeat' split) <;> omega
def sp_law_far_off : DSp := fun ds Q X => ∃ vs : List Vec, ds = [windD vs] ∧ (∀ v ∈ vs, VB 40 v) ∧ ∀ us : List Vec, us.length = vs.length → (∀ v ∈ us, VB 500 v) → Q (.d (windD us))
theorem p_law_far_off {G : Nat → DSp} : FnW G 2 1 m_law_far_off sp_law_far_off := by
  intro ds Q X ⟨vs, e, hv, q⟩
  subst e
  refine ⟨rfl, ?_⟩
  have bp : Bd 220 ((10 : Int) ^ (64 : Int).toNat) := by decide
  conv => whnf
  refine lc_each (t := .nm 1) vD vD (VB 500) vs (fun v hm k hk => ?_) fun us hl hv2 => ?_
  · have h := hv v hm
    have b1 := h.1
    have b2 := h.2
    ((conv => whnf); repeat' (first | (refine ⟨mul_ok b1 bp (by decide), ?_⟩; conv => whnf) | (refine ⟨mul_ok (b1.mul bp) bp (by decide), ?_⟩; conv => whnf) | (refine ⟨mul_ok b2 bp (by decide), ?_⟩; conv => whnf) | (refine ⟨mul_ok (b2.mul bp) bp (by decide), ?_⟩; conv => whnf) | (refine wIf_tt ?_; conv => whnf) | (refine wIf_ff ?_; conv => whnf) | (refine wIf.mk (fun hif => (have hif := of_decide_eq_true hif; ?_)) (fun hif => (have hif := of_decide_eq_false hif; ?_)) <;> (conv => whnf)) | (refine wIf_not ?_) | (refine ⟨(by decide : (_ : Int) ≠ 0), fun w _ hw => ?_⟩; replace hw := hw (by decide); conv => whnf) | (refine ⟨(by decide : (_ : Int) ≠ 0), div_lit (by decide), fun w _ hw => ?_⟩; replace hw := hw (by decide); conv => whnf) | (refine eq_rD ?_; conv => whnf) | (refine eq_ts ?_; conv => whnf) | (refine ne_ts ?_; conv => whnf) | (refine ne_rD ?_; conv => whnf) | (refine eq_vD ?_; conv => whnf) | (refine ne_vD ?_; conv => whnf) | (refine ⟨isi_ok rfl, ?_⟩; conv => whnf) | (apply wMulS.mk; (first | exact mul_l (by decide) (by decide) | exact mul_r (by decide) (by decide) | exact mul_ok (by l_ints) (by l_ints) (by decide)); conv => whnf) | (refine ⟨⟨by decide, by decide, by decide⟩, ?_⟩; conv => whnf) | (refine ⟨⟨by decide, by decide, by omega⟩, ?_⟩; conv => whnf) | (refine ⟨small_sz (Nat.le_of_ble_eq_true rfl), ?_⟩; conv => whnf) | fail))
    exact hk (_, _) ⟨((b1.mul bp).mul bp).mono (by decide), ((b2.mul bp).mul bp).mono (by decide)⟩
  conv => whnf
  exact q us hl hv2
def sp_law_wind_2 : DSp := fun ds Q X => ∃ (ns : List Int) (m : Int), ds = [.list (ns.map .int), .int m] ∧ ns ≠ [] ∧ ns.length ≤ 1000 ∧ 0 ≤ m ∧ m ≤ 10 ^ 9 ∧ ∀ vs : List Vec, vs.length = ns.length → (∀ v ∈ vs, VB 40 v) → Q (.d (windD vs))
theorem p_law_wind_2 {G : Nat → DSp} (g58 : G 58 = sp_law_vector_3) (g56 : G 56 = sp_law_mix) (g60 : G 60 = sp_law_within) : FnW G 9 2 m_law_wind_2 sp_law_wind_2 := by
  intro ds Q X ⟨ns, m, e, hn, hl, h1, h2, q⟩
  subst e
  refine ⟨rfl, ?_⟩
  have hl0 := List.length_pos_iff.mpr hn
  obtain ⟨c, hc, a0⟩ := atI_maps (f := PyData.int) (xs := ns) (i := 0) (by omega) (by omega)
  conv => whnf
  rw [a0]
  conv => whnf
  refine gC g58 ⟨c, 10, m, rfl, by decide, by decide, h1, h2, fun f f1 f2 f3 f4 => ?_⟩
  conv => whnf
  rw [a0]
  conv => whnf
  refine gC g58 ⟨c, 20, 3, rfl, by decide, by decide, by decide, by decide, fun st s1 s2 s3 s4 => ?_⟩
  conv => whnf
  rw [a0]
  conv => whnf
  refine gC g56 ⟨c, 30, rfl, by decide, by decide, fun z hz1 hz2 => ?_⟩
  ((conv => whnf); repeat' (first | (refine wIf_tt ?_; conv => whnf) | (refine wIf_ff ?_; conv => whnf) | (refine wIf.mk (fun hif => (have hif := of_decide_eq_true hif; ?_)) (fun hif => (have hif := of_decide_eq_false hif; ?_)) <;> (conv => whnf)) | (refine wIf_not ?_) | (refine ⟨(by decide : (_ : Int) ≠ 0), fun w _ hw => ?_⟩; replace hw := hw (by decide); conv => whnf) | (refine ⟨(by decide : (_ : Int) ≠ 0), div_lit (by decide), fun w _ hw => ?_⟩; replace hw := hw (by decide); conv => whnf) | (refine eq_rD ?_; conv => whnf) | (refine eq_ts ?_; conv => whnf) | (refine ne_ts ?_; conv => whnf) | (refine ne_rD ?_; conv => whnf) | (refine eq_vD ?_; conv => whnf) | (refine ne_vD ?_; conv => whnf) | (refine ⟨isi_ok rfl, ?_⟩; conv => whnf) | (apply wMulS.mk; (first | exact mul_l (by decide) (by decide) | exact mul_r (by decide) (by decide) | exact mul_ok (by l_ints) (by l_ints) (by decide)); conv => whnf) | (refine ⟨⟨by decide, by decide, by decide⟩, ?_⟩; conv => whnf) | (refine ⟨⟨by decide, by decide, by omega⟩, ?_⟩; conv => whnf) | (refine ⟨small_sz (Nat.le_of_ble_eq_true rfl), ?_⟩; conv => whnf) | fail))
  have bv : ∀ v : Vec, -m ≤ v.1 → v.1 ≤ m → -m ≤ v.2 → v.2 ≤ m → VB 40 v := fun v a b c d => ⟨bd40 (by omega) (by omega), bd40 (by omega) (by omega)⟩
  refine ⟨rfl, ?_⟩
  refine forLoop_ind (fun ds ρ => ∃ (zs : List Int) (vs : List Vec) (x y z : Option DL.R), ds = zs.map .int ∧ vs.length + zs.length = ns.length ∧ (∀ v ∈ vs, VB 40 v) ∧ ρ = [some (.d (.list (ns.map .int))), some (.d (.int m)), some (.d (vD f)), some (.d (vD st)), some (.d (.int w)), some (.l (vs.map vD) true), x, y, z]) ?_ ?_ _ _ ⟨ns, [], none, none, none, rfl, by simp, by simp, rfl⟩
  · rintro ρ ⟨zs, vs, x, y, z, e1, e2, e3, rfl⟩
    have : zs = [] := by simpa using e1.symm
    subst this
    conv => whnf
    exact q vs (by simpa using e2) e3
  rintro d ds ρ ⟨zs, vs, x, y, z, e1, e2, e3, rfl⟩ nx hnx
  cases zs with
  | nil => cases e1
  | cons u zs =>
    cases e1
    have go : ∀ v x y z, VB 40 v → nx [some (.d (.list (ns.map .int))), some (.d (.int m)), some (.d (vD f)), some (.d (vD st)), some (.d (.int w)), some (.l (vs.map vD ++ [vD v]) true), x, y, z] := fun v x y z hv => hnx _ ⟨zs, vs ++ [v], x, y, z, rfl, by simp at e2 ⊢; omega, fun u hu => by
      rcases List.mem_append.mp hu with h | h
      · exact e3 u h
      · rw [List.mem_singleton.mp h]; exact hv, by rw [List.map_append]; rfl⟩
    conv => whnf
    refine gC g58 ⟨u, 10, m, rfl, by decide, by decide, h1, h2, fun v v1 v2 v3 v4 => ?_⟩
    conv => whnf
    refine gC g56 ⟨u, 40, rfl, by decide, by decide, fun t ht1 ht2 => ?_⟩
    ((conv => whnf); repeat' (first | (refine gC g60 ⟨_, rfl, fun z z1 z2 => ?_⟩; conv => whnf) | (refine wIf_tt ?_; conv => whnf) | (refine wIf_ff ?_; conv => whnf) | (refine wIf.mk (fun hif => (have hif := of_decide_eq_true hif; ?_)) (fun hif => (have hif := of_decide_eq_false hif; ?_)) <;> (conv => whnf)) | (refine wIf_not ?_) | (refine ⟨(by decide : (_ : Int) ≠ 0), fun w _ hw => ?_⟩; replace hw := hw (by decide); conv => whnf) | (refine ⟨(by decide : (_ : Int) ≠ 0), div_lit (by decide), fun w _ hw => ?_⟩; replace hw := hw (by decide); conv => whnf) | (refine eq_rD ?_; conv => whnf) | (refine eq_ts ?_; conv => whnf) | (refine ne_ts ?_; conv => whnf) | (refine ne_rD ?_; conv => whnf) | (refine eq_vD ?_; conv => whnf) | (refine ne_vD ?_; conv => whnf) | (refine ⟨isi_ok rfl, ?_⟩; conv => whnf) | (apply wMulS.mk; (first | exact mul_l (by decide) (by decide) | exact mul_r (by decide) (by decide) | exact mul_ok (by l_ints) (by l_ints) (by decide)); conv => whnf) | (refine ⟨⟨by decide, by decide, by decide⟩, ?_⟩; conv => whnf) | (refine ⟨⟨by decide, by decide, by omega⟩, ?_⟩; conv => whnf) | (refine ⟨small_sz (Nat.le_of_ble_eq_true rfl), ?_⟩; conv => whnf) | fail))
    all_goals refine ⟨by simp at e2 ⊢; exact small_lt (by omega), ?_⟩
    all_goals conv => whnf
    all_goals first
      | exact go v _ _ _ (bv v v1 v2 v3 v4)
      | exact go f _ _ _ (bv f f1 f2 f3 f4)
      | exact go (_, _) _ _ _ ⟨bd40 (by omega) (by omega), bd40 (by omega) (by omega)⟩
abbrev Pr := List Vec × Int
def prD (p : Pr) : D := .tuple [windD p.1, .int p.2]
structure PrOk (k n : Nat) (p : Pr) : Prop where
  ne : p.1 ≠ []
  len : p.1.length ≤ n
  vb : ∀ v ∈ p.1, VB k v
theorem cut_ne {α : Type} {f : α → D} (xs : List α) (i j : Int) (h0 : 0 ≤ i) (h1 : i < j) (h2 : i < xs.length) : ∃ ys : List α, cutD (xs.map f) (some i) (some j) = ys.map f ∧ ys ≠ [] ∧ ys.length ≤ xs.length ∧ ∀ y ∈ ys, y ∈ xs := by
  obtain ⟨a, rfl⟩ := Int.eq_ofNat_of_zero_le h0
  obtain ⟨b, rfl⟩ := Int.eq_ofNat_of_zero_le (show 0 ≤ j by omega)
  refine ⟨(xs.drop a).take (b - a), ?_, ?_, ?_, fun y hy => List.mem_of_mem_drop (List.mem_of_mem_take hy)⟩
  · rw [List.map_take, List.map_drop]
    exact cut_gen _ a b
  · intro h
    have := congrArg List.length h
    rw [List.length_take, List.length_drop, List.length_nil] at this
    omega
  · rw [List.length_take, List.length_drop]
    omega
def sp_law_free_pairs : DSp := fun ds Q X => ∃ (ns : List Int) (f : Int), ds = [.list (ns.map .int), .int f] ∧ ns ≠ [] ∧ ns.length ≤ 1000 ∧ 0 ≤ f ∧ f ≤ 10 ^ 60 ∧ ∀ ps : List Pr, ps ≠ [] → ps.length ≤ ns.length → (∀ p ∈ ps, PrOk 500 (ns.length + 1) p) → Q (.d (.list (ps.map prD)))
theorem p_law_free_pairs {G : Nat → DSp} (g59 : G 59 = sp_law_digits) : FnW G 7 2 m_law_free_pairs sp_law_free_pairs := by
  intro ds Q X ⟨ns, f, e, hn, hl, h1, h2, q⟩
  subst e
  refine ⟨rfl, ?_⟩
  have hl0 := List.length_pos_iff.mpr hn
  have hlen : ((ns.map PyData.int).length : Int) = ns.length := by simp
  ((conv => whnf); repeat' (first | (refine wIf_tt ?_; conv => whnf) | (refine wIf_ff ?_; conv => whnf) | (refine wIf.mk (fun hif => (have hif := of_decide_eq_true hif; ?_)) (fun hif => (have hif := of_decide_eq_false hif; ?_)) <;> (conv => whnf)) | (refine wIf_not ?_) | (refine ⟨(by decide : (_ : Int) ≠ 0), fun w _ hw => ?_⟩; replace hw := hw (by decide); conv => whnf) | (refine ⟨(by decide : (_ : Int) ≠ 0), div_lit (by decide), fun w _ hw => ?_⟩; replace hw := hw (by decide); conv => whnf) | (refine eq_rD ?_; conv => whnf) | (refine eq_ts ?_; conv => whnf) | (refine ne_ts ?_; conv => whnf) | (refine ne_rD ?_; conv => whnf) | (refine eq_vD ?_; conv => whnf) | (refine ne_vD ?_; conv => whnf) | (refine ⟨isi_ok rfl, ?_⟩; conv => whnf) | (apply wMulS.mk; (first | exact mul_l (by decide) (by decide) | exact mul_r (by decide) (by decide) | exact mul_ok (by l_ints) (by l_ints) (by decide)); conv => whnf) | (refine ⟨⟨by decide, by decide, by decide⟩, ?_⟩; conv => whnf) | (refine ⟨⟨by decide, by decide, by omega⟩, ?_⟩; conv => whnf) | (refine ⟨small_sz (Nat.le_of_ble_eq_true rfl), ?_⟩; conv => whnf) | fail))
  refine ⟨fun n ρ => ∃ (at_ : Int) (ps : List Pr) (a b c : Option DL.R), 0 ≤ at_ ∧ n = (ns.length - at_).toNat ∧ (ps.length : Int) ≤ at_ ∧ ps.length ≤ ns.length ∧ (at_ = 0 ∨ ps ≠ []) ∧ (∀ p ∈ ps, PrOk 500 (ns.length + 1) p) ∧ ρ = [some (.d (.list (ns.map .int))), some (.d (.int f)), some (.l (ps.map prD) true), some (.d (.int at_)), a, b, c], ⟨_, 0, [], none, none, none, by omega, rfl, by simp, by simp, .inl rfl, by simp, rfl⟩, ?_⟩
  rintro n ρ ⟨at_, ps, a, b, c, h3, rfl, h4, h5, h6, h7, rfl⟩
  conv => whnf
  refine wIf.mk (fun hc => ?_) (fun hc => ?_)
  case refine_2 =>
    have hc : ¬ at_ < _ := of_decide_eq_false hc
    ((conv => whnf); repeat' (first | (refine wIf_tt ?_; conv => whnf) | (refine wIf_ff ?_; conv => whnf) | (refine wIf.mk (fun hif => (have hif := of_decide_eq_true hif; ?_)) (fun hif => (have hif := of_decide_eq_false hif; ?_)) <;> (conv => whnf)) | (refine wIf_not ?_) | (refine ⟨(by decide : (_ : Int) ≠ 0), fun w _ hw => ?_⟩; replace hw := hw (by decide); conv => whnf) | (refine ⟨(by decide : (_ : Int) ≠ 0), div_lit (by decide), fun w _ hw => ?_⟩; replace hw := hw (by decide); conv => whnf) | (refine eq_rD ?_; conv => whnf) | (refine eq_ts ?_; conv => whnf) | (refine ne_ts ?_; conv => whnf) | (refine ne_rD ?_; conv => whnf) | (refine eq_vD ?_; conv => whnf) | (refine ne_vD ?_; conv => whnf) | (refine ⟨isi_ok rfl, ?_⟩; conv => whnf) | (apply wMulS.mk; (first | exact mul_l (by decide) (by decide) | exact mul_r (by decide) (by decide) | exact mul_ok (by l_ints) (by l_ints) (by decide)); conv => whnf) | (refine ⟨⟨by decide, by decide, by decide⟩, ?_⟩; conv => whnf) | (refine ⟨⟨by decide, by decide, by omega⟩, ?_⟩; conv => whnf) | (refine ⟨small_sz (Nat.le_of_ble_eq_true rfl), ?_⟩; conv => whnf) | fail))
    refine q ps ?_ h5 h7
    rcases h6 with h | h
    · omega
    · exact h
  have hc : at_ < _ := of_decide_eq_true hc
  rw [hlen] at hc
  obtain ⟨x, hx, a1⟩ := atI_maps (f := PyData.int) (xs := ns) (i := at_) (by omega) (by omega)
  ((conv => whnf); repeat' (first | (rw [a1]; conv => whnf) | (refine wIf_tt ?_; conv => whnf) | (refine wIf_ff ?_; conv => whnf) | (refine wIf.mk (fun hif => (have hif := of_decide_eq_true hif; ?_)) (fun hif => (have hif := of_decide_eq_false hif; ?_)) <;> (conv => whnf)) | (refine wIf_not ?_) | (refine ⟨(by decide : (_ : Int) ≠ 0), fun w _ hw => ?_⟩; replace hw := hw (by decide); conv => whnf) | (refine ⟨(by decide : (_ : Int) ≠ 0), div_lit (by decide), fun w _ hw => ?_⟩; replace hw := hw (by decide); conv => whnf) | (refine eq_rD ?_; conv => whnf) | (refine eq_ts ?_; conv => whnf) | (refine ne_ts ?_; conv => whnf) | (refine ne_rD ?_; conv => whnf) | (refine eq_vD ?_; conv => whnf) | (refine ne_vD ?_; conv => whnf) | (refine ⟨isi_ok rfl, ?_⟩; conv => whnf) | (apply wMulS.mk; (first | exact mul_l (by decide) (by decide) | exact mul_r (by decide) (by decide) | exact mul_ok (by l_ints) (by l_ints) (by decide)); conv => whnf) | (refine ⟨⟨by decide, by decide, by decide⟩, ?_⟩; conv => whnf) | (refine ⟨⟨by decide, by decide, by omega⟩, ?_⟩; conv => whnf) | (refine ⟨small_sz (Nat.le_of_ble_eq_true rfl), ?_⟩; conv => whnf) | fail))
  by_cases hcc : at_ + 1 = ((ns.map PyData.int).length : Int)
  · rw [decide_eq_true hcc]
    refine ⟨by decide, by decide, small_sz (by decide), ?_⟩
    conv => whnf
    obtain ⟨ys, e1, l1, m1⟩ := cut_sub (f := PyData.int) ns (some (at_ + 1)) (some (at_ + 1 + (1 + w)))
    rw [e1]
    obtain ⟨rows, hr⟩ : ∃ rows, rows = ys ++ [0] := ⟨_, rfl⟩
    have rne : rows ≠ [] := by rw [hr]; simp
    have rlen : rows.length ≤ ns.length + 1 := by rw [hr]; simp; omega
    have er : ys.map PyData.int ++ (List.replicate (if true = true then (1 : Int) else 0).toNat [PyData.int 0]).flatten = rows.map PyData.int := by rw [hr, List.map_append]; rfl
    refine ⟨small_sz (by simp; omega), ?_⟩
    conv => whnf
    rw [er]
    refine lc_each (t := .nm 6) PyData.int vD (VB 210) rows (fun y _ k hk => ?_) fun vs hvl hv => ?_
    · conv => whnf
      refine gC g59 ⟨y, f, rfl, h1, h2, fun v hv => ?_⟩
      conv => whnf
      exact hk _ hv
    ((conv => whnf); repeat' (first | (rw [a1]; conv => whnf) | (refine wIf_tt ?_; conv => whnf) | (refine wIf_ff ?_; conv => whnf) | (refine wIf.mk (fun hif => (have hif := of_decide_eq_true hif; ?_)) (fun hif => (have hif := of_decide_eq_false hif; ?_)) <;> (conv => whnf)) | (refine wIf_not ?_) | (refine ⟨(by decide : (_ : Int) ≠ 0), fun w _ hw => ?_⟩; replace hw := hw (by decide); conv => whnf) | (refine ⟨(by decide : (_ : Int) ≠ 0), div_lit (by decide), fun w _ hw => ?_⟩; replace hw := hw (by decide); conv => whnf) | (refine eq_rD ?_; conv => whnf) | (refine eq_ts ?_; conv => whnf) | (refine ne_ts ?_; conv => whnf) | (refine ne_rD ?_; conv => whnf) | (refine eq_vD ?_; conv => whnf) | (refine ne_vD ?_; conv => whnf) | (refine ⟨isi_ok rfl, ?_⟩; conv => whnf) | (apply wMulS.mk; (first | exact mul_l (by decide) (by decide) | exact mul_r (by decide) (by decide) | exact mul_ok (by l_ints) (by l_ints) (by decide)); conv => whnf) | (refine ⟨⟨by decide, by decide, by decide⟩, ?_⟩; conv => whnf) | (refine ⟨⟨by decide, by decide, by omega⟩, ?_⟩; conv => whnf) | (refine ⟨small_sz (Nat.le_of_ble_eq_true rfl), ?_⟩; conv => whnf) | fail))
    refine ⟨by simp; exact small_lt (by omega), ?_⟩
    conv => whnf
    refine ⟨_, ?_, _, ps ++ [(vs, _)], _, _, _, ?_, rfl, ?_, ?_, .inr (by simp), fun p hp => ?_, by rw [List.map_append]; rfl⟩
    · omega
    · omega
    · simp
      omega
    · simp
      omega
    · rcases List.mem_append.mp hp with h | h
      · exact h7 p h
      · rw [List.mem_singleton.mp h]
        exact ⟨by intro h; have h : vs = [] := h; rw [h] at hvl; exact rne (List.length_eq_zero_iff.mp hvl.symm), (show vs.length ≤ ns.length + 1 by omega), fun v hm => (hv v hm).mono (by decide)⟩
  · rw [decide_eq_false hcc]
    refine ⟨by decide, by decide, small_sz (by decide), ?_⟩
    conv => whnf
    rw [hlen] at hcc
    obtain ⟨rows, e1, rne, rl, m1⟩ := cut_ne (f := PyData.int) ns (at_ + 1) (at_ + 1 + (1 + w)) (by omega) (by omega) (by omega)
    have rlen : rows.length ≤ ns.length + 1 := by omega
    rw [e1]
    have er : rows.map PyData.int ++ (List.replicate (if false = true then (1 : Int) else 0).toNat [PyData.int 0]).flatten = rows.map PyData.int := List.append_nil _
    refine ⟨small_sz (by simp; omega), ?_⟩
    conv => whnf
    rw [er]
    refine lc_each (t := .nm 6) PyData.int vD (VB 210) rows (fun y _ k hk => ?_) fun vs hvl hv => ?_
    · conv => whnf
      refine gC g59 ⟨y, f, rfl, h1, h2, fun v hv => ?_⟩
      conv => whnf
      exact hk _ hv
    ((conv => whnf); repeat' (first | (rw [a1]; conv => whnf) | (refine wIf_tt ?_; conv => whnf) | (refine wIf_ff ?_; conv => whnf) | (refine wIf.mk (fun hif => (have hif := of_decide_eq_true hif; ?_)) (fun hif => (have hif := of_decide_eq_false hif; ?_)) <;> (conv => whnf)) | (refine wIf_not ?_) | (refine ⟨(by decide : (_ : Int) ≠ 0), fun w _ hw => ?_⟩; replace hw := hw (by decide); conv => whnf) | (refine ⟨(by decide : (_ : Int) ≠ 0), div_lit (by decide), fun w _ hw => ?_⟩; replace hw := hw (by decide); conv => whnf) | (refine eq_rD ?_; conv => whnf) | (refine eq_ts ?_; conv => whnf) | (refine ne_ts ?_; conv => whnf) | (refine ne_rD ?_; conv => whnf) | (refine eq_vD ?_; conv => whnf) | (refine ne_vD ?_; conv => whnf) | (refine ⟨isi_ok rfl, ?_⟩; conv => whnf) | (apply wMulS.mk; (first | exact mul_l (by decide) (by decide) | exact mul_r (by decide) (by decide) | exact mul_ok (by l_ints) (by l_ints) (by decide)); conv => whnf) | (refine ⟨⟨by decide, by decide, by decide⟩, ?_⟩; conv => whnf) | (refine ⟨⟨by decide, by decide, by omega⟩, ?_⟩; conv => whnf) | (refine ⟨small_sz (Nat.le_of_ble_eq_true rfl), ?_⟩; conv => whnf) | fail))
    refine ⟨by simp; exact small_lt (by omega), ?_⟩
    conv => whnf
    refine ⟨_, ?_, _, ps ++ [(vs, _)], _, _, _, ?_, rfl, ?_, ?_, .inr (by simp), fun p hp => ?_, by rw [List.map_append]; rfl⟩
    · omega
    · omega
    · simp
      omega
    · simp
      omega
    · rcases List.mem_append.mp hp with h | h
      · exact h7 p h
      · rw [List.mem_singleton.mp h]
        exact ⟨by intro h; have h : vs = [] := h; rw [h] at hvl; exact rne (List.length_eq_zero_iff.mp hvl.symm), (show vs.length ≤ ns.length + 1 by omega), fun v hm => (hv v hm).mono (by decide)⟩
theorem pick6 {i : Int} {l : List Int} (h0 : 0 ≤ i) (h1 : i < l.length) : ∃ z ∈ l, atI (l.map PyData.int) i = some (.int z) := by
  obtain ⟨x, h2, h3⟩ := atI_maps (f := PyData.int) (xs := l) (i := i) (by omega) h1
  exact ⟨x, h2, h3⟩
def sp_law_pairs : DSp := fun ds Q X => ∃ (ns : List Int), ds = [.list (ns.map .int)] ∧ ns.length ≤ 63 ∧ ∀ ps : List Pr, ps ≠ [] → ps.length ≤ 100 → (∀ p ∈ ps, PrOk 500 100 p) → Q (.d (.list (ps.map prD)))
theorem p_law_pairs {G : Nat → DSp} (g42 : G 42 = sp_law_cell_at) (g63 : G 63 = sp_law_free_pairs) (g56 : G 56 = sp_law_mix) (g61 : G 61 = sp_law_wind_2) (g62 : G 62 = sp_law_far_off) : FnW G 8 1 m_law_pairs sp_law_pairs := by
  intro ds Q X ⟨ns, e, hl, q⟩
  subst e
  refine ⟨rfl, ?_⟩
  have hlen : ((ns.map PyData.int).length : Int) = ns.length := by simp
  conv => whnf
  refine gC g42 ⟨ns, 0, rfl, fun head hhead => ?_⟩
  conv => whnf
  have key : ∀ b : Bool, ((ns.map PyData.int).length : Int) < 2 → b = true ∨ b = false := fun b _ => by cases b <;> simp
  obtain ⟨cs, hcs, csn, csl⟩ : ∃ cs : List Int, cutD (ns.map PyData.int) (some 1) none ++ (List.replicate (if decide (((ns.map PyData.int).length : Int) < 2) = true then (1 : Int) else 0).toNat [PyData.int 0]).flatten = cs.map PyData.int ∧ cs ≠ [] ∧ cs.length ≤ 64 := by
    by_cases h : ((ns.map PyData.int).length : Int) < 2
    · rw [decide_eq_true h]
      refine ⟨ns.drop 1 ++ [0], ?_, by simp, by simp; omega⟩
      rw [List.map_append, List.map_drop]
      exact congrArg (· ++ _) (cut_from _ 1)
    · rw [decide_eq_false h]
      refine ⟨ns.drop 1, ?_, ?_, by simp; omega⟩
      · rw [List.map_drop]
        refine Eq.trans (List.append_nil _) ?_
        exact cut_from _ 1
      · intro z
        have := congrArg List.length z
        rw [List.length_drop, List.length_nil] at this
        omega
  refine ⟨small_sz (by decide), ?_⟩
  conv => whnf
  refine ⟨by split <;> decide, by split <;> decide, small_sz (by split <;> decide), ?_⟩
  conv => whnf
  have hle : _ = cs.length := (congrArg List.length hcs).trans (List.length_map _)
  rw [List.length_append] at hle
  refine ⟨small_sz (Nat.le_trans (Nat.le_of_eq hle) (by omega)), ?_⟩
  conv => whnf
  rw [hcs]
  ((conv => whnf); repeat' (first | (refine wIf_tt ?_; conv => whnf) | (refine wIf_ff ?_; conv => whnf) | (refine wIf.mk (fun hif => (have hif := of_decide_eq_true hif; ?_)) (fun hif => (have hif := of_decide_eq_false hif; ?_)) <;> (conv => whnf)) | (refine wIf_not ?_) | (refine ⟨(by decide : (_ : Int) ≠ 0), fun w _ hw => ?_⟩; replace hw := hw (by decide); conv => whnf) | (refine ⟨(by decide : (_ : Int) ≠ 0), div_lit (by decide), fun w _ hw => ?_⟩; replace hw := hw (by decide); conv => whnf) | (refine eq_rD ?_; conv => whnf) | (refine eq_ts ?_; conv => whnf) | (refine ne_ts ?_; conv => whnf) | (refine ne_rD ?_; conv => whnf) | (refine eq_vD ?_; conv => whnf) | (refine ne_vD ?_; conv => whnf) | (refine ⟨isi_ok rfl, ?_⟩; conv => whnf) | (apply wMulS.mk; (first | exact mul_l (by decide) (by decide) | exact mul_r (by decide) (by decide) | exact mul_ok (by l_ints) (by l_ints) (by decide)); conv => whnf) | (refine ⟨⟨by decide, by decide, by decide⟩, ?_⟩; conv => whnf) | (refine ⟨⟨by decide, by decide, by omega⟩, ?_⟩; conv => whnf) | (refine ⟨small_sz (Nat.le_of_ble_eq_true rfl), ?_⟩; conv => whnf) | fail))
  · obtain ⟨far, e1, hf⟩ := pick3 (i := w) (a := 12) (b := 10 ^ (9 : Int).toNat) (c := 10 ^ (60 : Int).toNat) (by omega) (by omega)
    have hp : (10 : Int) ^ (9 : Int).toNat = 10 ^ 9 := rfl
    have hp2 : (10 : Int) ^ (60 : Int).toNat = 10 ^ 60 := rfl
    have hf2 : 0 ≤ far ∧ far ≤ 10 ^ 60 := by omega
    rw [e1]
    refine gC g63 ⟨cs, far, rfl, csn, by omega, hf2.1, hf2.2, fun ps h1 h2 h3 => ?_⟩
    exact q ps h1 (by omega) fun p hp => ⟨(h3 p hp).ne, by have := (h3 p hp).len; omega, (h3 p hp).vb⟩
  refine gC g56 ⟨head, 1, rfl, by decide, by decide, fun z hz1 hz2 => ?_⟩
  ((conv => whnf); repeat' (first | (refine wIf_tt ?_; conv => whnf) | (refine wIf_ff ?_; conv => whnf) | (refine wIf.mk (fun hif => (have hif := of_decide_eq_true hif; ?_)) (fun hif => (have hif := of_decide_eq_false hif; ?_)) <;> (conv => whnf)) | (refine wIf_not ?_) | (refine ⟨(by decide : (_ : Int) ≠ 0), fun w _ hw => ?_⟩; replace hw := hw (by decide); conv => whnf) | (refine ⟨(by decide : (_ : Int) ≠ 0), div_lit (by decide), fun w _ hw => ?_⟩; replace hw := hw (by decide); conv => whnf) | (refine eq_rD ?_; conv => whnf) | (refine eq_ts ?_; conv => whnf) | (refine ne_ts ?_; conv => whnf) | (refine ne_rD ?_; conv => whnf) | (refine eq_vD ?_; conv => whnf) | (refine ne_vD ?_; conv => whnf) | (refine ⟨isi_ok rfl, ?_⟩; conv => whnf) | (apply wMulS.mk; (first | exact mul_l (by decide) (by decide) | exact mul_r (by decide) (by decide) | exact mul_ok (by l_ints) (by l_ints) (by decide)); conv => whnf) | (refine ⟨⟨by decide, by decide, by decide⟩, ?_⟩; conv => whnf) | (refine ⟨⟨by decide, by decide, by omega⟩, ?_⟩; conv => whnf) | (refine ⟨small_sz (Nat.le_of_ble_eq_true rfl), ?_⟩; conv => whnf) | fail))
  obtain ⟨most, hm, e1⟩ := pick6 (i := w) (l := [3, 3, 12, 12, 40, 10 ^ (9 : Int).toNat]) (by omega) (by simp; omega)
  have e1 : atI [PyData.int 3, .int 3, .int 12, .int 12, .int 40, .int (10 ^ (9 : Int).toNat)] w = some (.int most) := e1
  have hm : 0 ≤ most ∧ most ≤ 10 ^ 9 := by
    have hp : (10 : Int) ^ (9 : Int).toNat = 10 ^ 9 := rfl
    simp at hm
    omega
  rw [e1]
  ((conv => whnf); repeat' (first | (refine wIf_tt ?_; conv => whnf) | (refine wIf_ff ?_; conv => whnf) | (refine wIf.mk (fun hif => (have hif := of_decide_eq_true hif; ?_)) (fun hif => (have hif := of_decide_eq_false hif; ?_)) <;> (conv => whnf)) | (refine wIf_not ?_) | (refine ⟨(by decide : (_ : Int) ≠ 0), fun w _ hw => ?_⟩; replace hw := hw (by decide); conv => whnf) | (refine ⟨(by decide : (_ : Int) ≠ 0), div_lit (by decide), fun w _ hw => ?_⟩; replace hw := hw (by decide); conv => whnf) | (refine eq_rD ?_; conv => whnf) | (refine eq_ts ?_; conv => whnf) | (refine ne_ts ?_; conv => whnf) | (refine ne_rD ?_; conv => whnf) | (refine eq_vD ?_; conv => whnf) | (refine ne_vD ?_; conv => whnf) | (refine ⟨isi_ok rfl, ?_⟩; conv => whnf) | (apply wMulS.mk; (first | exact mul_l (by decide) (by decide) | exact mul_r (by decide) (by decide) | exact mul_ok (by l_ints) (by l_ints) (by decide)); conv => whnf) | (refine ⟨⟨by decide, by decide, by decide⟩, ?_⟩; conv => whnf) | (refine ⟨⟨by decide, by decide, by omega⟩, ?_⟩; conv => whnf) | (refine ⟨small_sz (Nat.le_of_ble_eq_true rfl), ?_⟩; conv => whnf) | fail))
  have hcl : ((cs.map PyData.int).length : Int) = cs.length := by simp
  have hc0 := List.length_pos_iff.mpr csn
  have wd : ∀ (xs : List Int) (W : R → Prop) {X : Nat → Prop}, xs ≠ [] → xs.length ≤ 64 → (∀ vs : List Vec, vs ≠ [] → vs.length ≤ 64 → (∀ v ∈ vs, VB 40 v) → W (.d (windD vs))) → G 61 [.list (xs.map .int), .int most] W X := fun xs W _ h1 h2 h => gC g61 ⟨xs, most, rfl, h1, by omega, hm.1, hm.2, fun vs l b => h vs (by intro z; rw [z] at l; exact h1 (List.length_eq_zero_iff.mp l.symm)) (by omega) b⟩
  have mx : ∀ (a k : Int) (W : R → Prop) {X : Nat → Prop}, (0 ≤ k ∧ k ≤ 1000000) → (∀ z : Int, 0 ≤ z → W (.d (.int z))) → G 56 [.int a, .int k] W X := fun a k W _ hh h => gC g56 ⟨a, k, rfl, hh.1, hh.2, fun z h1 _ => h z h1⟩
  refine ⟨fun n ρ => ∃ (at_ : Int) (ps : List Pr) (a b : Option DL.R), 0 ≤ at_ ∧ n = (cs.length - at_).toNat ∧ (ps.length : Int) ≤ at_ ∧ ps.length ≤ 64 ∧ (at_ = 0 ∨ ps ≠ []) ∧ (∀ p ∈ ps, PrOk 40 64 p) ∧ ρ = [some (.d (.list (ns.map .int))), some (.d (.int head)), some (.d (.list (cs.map .int))), some (.d (.int most)), some (.l (ps.map prD) true), some (.d (.int at_)), a, b], ⟨_, 0, [], none, none, by omega, rfl, by simp, by simp, .inl rfl, by simp, rfl⟩, ?_⟩
  rintro n ρ ⟨at_, ps, a, b, h3, rfl, h4, h5, h6, h7, rfl⟩
  conv => whnf
  refine wIf.mk (fun hc => ?_) (fun hc => ?_)
  · have hc : at_ < _ := of_decide_eq_true hc
    rw [hcl] at hc
    obtain ⟨x, hx, a1⟩ := atI_maps (f := PyData.int) (xs := cs) (i := at_) (by omega) (by omega)
    conv => whnf
    rw [a1]
    conv => whnf
    refine mx _ _ _ (by decide) fun z1 hz11 => ?_
    ((conv => whnf); repeat' (first | (refine wIf_tt ?_; conv => whnf) | (refine wIf_ff ?_; conv => whnf) | (refine wIf.mk (fun hif => (have hif := of_decide_eq_true hif; ?_)) (fun hif => (have hif := of_decide_eq_false hif; ?_)) <;> (conv => whnf)) | (refine wIf_not ?_) | (refine ⟨(by decide : (_ : Int) ≠ 0), fun w _ hw => ?_⟩; replace hw := hw (by decide); conv => whnf) | (refine ⟨(by decide : (_ : Int) ≠ 0), div_lit (by decide), fun w _ hw => ?_⟩; replace hw := hw (by decide); conv => whnf) | (refine eq_rD ?_; conv => whnf) | (refine eq_ts ?_; conv => whnf) | (refine ne_ts ?_; conv => whnf) | (refine ne_rD ?_; conv => whnf) | (refine eq_vD ?_; conv => whnf) | (refine ne_vD ?_; conv => whnf) | (refine ⟨isi_ok rfl, ?_⟩; conv => whnf) | (apply wMulS.mk; (first | exact mul_l (by decide) (by decide) | exact mul_r (by decide) (by decide) | exact mul_ok (by l_ints) (by l_ints) (by decide)); conv => whnf) | (refine ⟨⟨by decide, by decide, by decide⟩, ?_⟩; conv => whnf) | (refine ⟨⟨by decide, by decide, by omega⟩, ?_⟩; conv => whnf) | (refine ⟨small_sz (Nat.le_of_ble_eq_true rfl), ?_⟩; conv => whnf) | fail))
    rw [a1]
    conv => whnf
    refine mx _ _ _ (by decide) fun z2 hz21 => ?_
    ((conv => whnf); repeat' (first | (refine wIf_tt ?_; conv => whnf) | (refine wIf_ff ?_; conv => whnf) | (refine wIf.mk (fun hif => (have hif := of_decide_eq_true hif; ?_)) (fun hif => (have hif := of_decide_eq_false hif; ?_)) <;> (conv => whnf)) | (refine wIf_not ?_) | (refine ⟨(by decide : (_ : Int) ≠ 0), fun w _ hw => ?_⟩; replace hw := hw (by decide); conv => whnf) | (refine ⟨(by decide : (_ : Int) ≠ 0), div_lit (by decide), fun w _ hw => ?_⟩; replace hw := hw (by decide); conv => whnf) | (refine eq_rD ?_; conv => whnf) | (refine eq_ts ?_; conv => whnf) | (refine ne_ts ?_; conv => whnf) | (refine ne_rD ?_; conv => whnf) | (refine eq_vD ?_; conv => whnf) | (refine ne_vD ?_; conv => whnf) | (refine ⟨isi_ok rfl, ?_⟩; conv => whnf) | (apply wMulS.mk; (first | exact mul_l (by decide) (by decide) | exact mul_r (by decide) (by decide) | exact mul_ok (by l_ints) (by l_ints) (by decide)); conv => whnf) | (refine ⟨⟨by decide, by decide, by decide⟩, ?_⟩; conv => whnf) | (refine ⟨⟨by decide, by decide, by omega⟩, ?_⟩; conv => whnf) | (refine ⟨small_sz (Nat.le_of_ble_eq_true rfl), ?_⟩; conv => whnf) | fail))
    obtain ⟨dv, e2, hd⟩ := pick4i (i := w) (a := 12) (b := 4) (c := 3) (d := 5) (by omega) (by omega)
    rw [e2]
    conv => whnf
    have hd0 : 0 < dv := by omega
    refine ⟨by omega, fun w2 _ hw2 => ?_⟩
    have hw2 : 0 ≤ w2 := by rw [hw2 hd0]; exact Int.emod_nonneg _ (by omega)
    conv => whnf
    obtain ⟨rows, e3, rne, rl, _⟩ := cut_ne (f := PyData.int) cs at_ (at_ + (1 + w2)) (by omega) (by omega) (by omega)
    rw [e3]
    conv => whnf
    refine wd _ _ rne (by omega) fun vs vne vl vb => ?_
    conv => whnf
    rw [a1]
    ((conv => whnf); repeat' (first | (refine wIf_tt ?_; conv => whnf) | (refine wIf_ff ?_; conv => whnf) | (refine wIf.mk (fun hif => (have hif := of_decide_eq_true hif; ?_)) (fun hif => (have hif := of_decide_eq_false hif; ?_)) <;> (conv => whnf)) | (refine wIf_not ?_) | (refine ⟨(by decide : (_ : Int) ≠ 0), fun w _ hw => ?_⟩; replace hw := hw (by decide); conv => whnf) | (refine ⟨(by decide : (_ : Int) ≠ 0), div_lit (by decide), fun w _ hw => ?_⟩; replace hw := hw (by decide); conv => whnf) | (refine eq_rD ?_; conv => whnf) | (refine eq_ts ?_; conv => whnf) | (refine ne_ts ?_; conv => whnf) | (refine ne_rD ?_; conv => whnf) | (refine eq_vD ?_; conv => whnf) | (refine ne_vD ?_; conv => whnf) | (refine ⟨isi_ok rfl, ?_⟩; conv => whnf) | (apply wMulS.mk; (first | exact mul_l (by decide) (by decide) | exact mul_r (by decide) (by decide) | exact mul_ok (by l_ints) (by l_ints) (by decide)); conv => whnf) | (refine ⟨⟨by decide, by decide, by decide⟩, ?_⟩; conv => whnf) | (refine ⟨⟨by decide, by decide, by omega⟩, ?_⟩; conv => whnf) | (refine ⟨small_sz (Nat.le_of_ble_eq_true rfl), ?_⟩; conv => whnf) | fail))
    refine ⟨by simp; exact small_lt (by omega), ?_⟩
    conv => whnf
    refine ⟨_, ?_, _, ps ++ [(vs, _)], _, _, ?_, rfl, ?_, ?_, .inr (by simp), fun p hp => ?_, by rw [List.map_append]; rfl⟩
    · omega
    · omega
    · simp
      omega
    · simp
      omega
    · rcases List.mem_append.mp hp with h | h
      · exact h7 p h
      · rw [List.mem_singleton.mp h]
        exact ⟨vne, vl, vb⟩
  have hc : ¬ at_ < _ := of_decide_eq_false hc
  rw [hcl] at hc
  have pne : ps ≠ [] := by
    rcases h6 with h | h
    · omega
    · exact h
  obtain ⟨c0, _, a0⟩ := atI_maps (f := PyData.int) (xs := cs) (i := 0) (by omega) (by omega)
  conv => whnf
  rw [a0]
  conv => whnf
  refine mx _ _ _ (by decide) fun z3 hz31 => ?_
  conv => whnf
  refine ⟨by decide, fun w3 _ _ => ?_⟩
  conv => whnf
  refine wIf.mk (fun hw3 => ?_) (fun hw3 => ?_)
  · conv => whnf
    refine wd _ _ csn csl fun vs vne vl vb => ?_
    conv => whnf
    rw [a0]
    ((conv => whnf); repeat' (first | (refine wIf_tt ?_; conv => whnf) | (refine wIf_ff ?_; conv => whnf) | (refine wIf.mk (fun hif => (have hif := of_decide_eq_true hif; ?_)) (fun hif => (have hif := of_decide_eq_false hif; ?_)) <;> (conv => whnf)) | (refine wIf_not ?_) | (refine ⟨(by decide : (_ : Int) ≠ 0), fun w _ hw => ?_⟩; replace hw := hw (by decide); conv => whnf) | (refine ⟨(by decide : (_ : Int) ≠ 0), div_lit (by decide), fun w _ hw => ?_⟩; replace hw := hw (by decide); conv => whnf) | (refine eq_rD ?_; conv => whnf) | (refine eq_ts ?_; conv => whnf) | (refine ne_ts ?_; conv => whnf) | (refine ne_rD ?_; conv => whnf) | (refine eq_vD ?_; conv => whnf) | (refine ne_vD ?_; conv => whnf) | (refine ⟨isi_ok rfl, ?_⟩; conv => whnf) | (apply wMulS.mk; (first | exact mul_l (by decide) (by decide) | exact mul_r (by decide) (by decide) | exact mul_ok (by l_ints) (by l_ints) (by decide)); conv => whnf) | (refine ⟨⟨by decide, by decide, by decide⟩, ?_⟩; conv => whnf) | (refine ⟨⟨by decide, by decide, by omega⟩, ?_⟩; conv => whnf) | (refine ⟨small_sz (Nat.le_of_ble_eq_true rfl), ?_⟩; conv => whnf) | fail))
    obtain ⟨qs, hqs⟩ : ∃ qs : List Pr, qs = (vs, c0 + 1) :: ps := ⟨_, rfl⟩
    have HQ : ∀ p ∈ qs, PrOk 40 64 p := fun p hp => by
      rw [hqs] at hp
      rcases List.mem_cons.mp hp with h | h
      · rw [h]; exact ⟨vne, vl, vb⟩
      · exact h7 p h
    have LE : qs.length ≤ 65 := by rw [hqs]; simp; omega
    have NE : qs ≠ [] := by rw [hqs]; simp
    have eq : [PyData.tuple [windD vs, .int (c0 + 1)]] ++ ps.map prD = qs.map prD := by rw [hqs]; rfl
    refine ⟨small_sz (by simp; omega), ?_⟩
    rw [eq]
    conv => whnf
    rw [a0]
    conv => whnf
    refine mx _ _ _ (by decide) fun z4 hz41 => ?_
    ((conv => whnf); repeat' (first | (refine wIf_tt ?_; conv => whnf) | (refine wIf_ff ?_; conv => whnf) | (refine wIf.mk (fun hif => (have hif := of_decide_eq_true hif; ?_)) (fun hif => (have hif := of_decide_eq_false hif; ?_)) <;> (conv => whnf)) | (refine wIf_not ?_) | (refine ⟨(by decide : (_ : Int) ≠ 0), fun w _ hw => ?_⟩; replace hw := hw (by decide); conv => whnf) | (refine ⟨(by decide : (_ : Int) ≠ 0), div_lit (by decide), fun w _ hw => ?_⟩; replace hw := hw (by decide); conv => whnf) | (refine eq_rD ?_; conv => whnf) | (refine eq_ts ?_; conv => whnf) | (refine ne_ts ?_; conv => whnf) | (refine ne_rD ?_; conv => whnf) | (refine eq_vD ?_; conv => whnf) | (refine ne_vD ?_; conv => whnf) | (refine ⟨isi_ok rfl, ?_⟩; conv => whnf) | (apply wMulS.mk; (first | exact mul_l (by decide) (by decide) | exact mul_r (by decide) (by decide) | exact mul_ok (by l_ints) (by l_ints) (by decide)); conv => whnf) | (refine ⟨⟨by decide, by decide, by decide⟩, ?_⟩; conv => whnf) | (refine ⟨⟨by decide, by decide, by omega⟩, ?_⟩; conv => whnf) | (refine ⟨small_sz (Nat.le_of_ble_eq_true rfl), ?_⟩; conv => whnf) | fail))
    · refine lc_each (t := .nm 7) prD prD (PrOk 500 100) qs (fun p hp k hk => ?_) fun us hul huo => ?_
      · have o := HQ p hp
        conv => whnf
        refine gC g62 ⟨p.1, rfl, o.vb, fun us l b => ?_⟩
        ((conv => whnf); repeat' (first | (refine wIf_tt ?_; conv => whnf) | (refine wIf_ff ?_; conv => whnf) | (refine wIf.mk (fun hif => (have hif := of_decide_eq_true hif; ?_)) (fun hif => (have hif := of_decide_eq_false hif; ?_)) <;> (conv => whnf)) | (refine wIf_not ?_) | (refine ⟨(by decide : (_ : Int) ≠ 0), fun w _ hw => ?_⟩; replace hw := hw (by decide); conv => whnf) | (refine ⟨(by decide : (_ : Int) ≠ 0), div_lit (by decide), fun w _ hw => ?_⟩; replace hw := hw (by decide); conv => whnf) | (refine eq_rD ?_; conv => whnf) | (refine eq_ts ?_; conv => whnf) | (refine ne_ts ?_; conv => whnf) | (refine ne_rD ?_; conv => whnf) | (refine eq_vD ?_; conv => whnf) | (refine ne_vD ?_; conv => whnf) | (refine ⟨isi_ok rfl, ?_⟩; conv => whnf) | (apply wMulS.mk; (first | exact mul_l (by decide) (by decide) | exact mul_r (by decide) (by decide) | exact mul_ok (by l_ints) (by l_ints) (by decide)); conv => whnf) | (refine ⟨⟨by decide, by decide, by decide⟩, ?_⟩; conv => whnf) | (refine ⟨⟨by decide, by decide, by omega⟩, ?_⟩; conv => whnf) | (refine ⟨small_sz (Nat.le_of_ble_eq_true rfl), ?_⟩; conv => whnf) | fail))
        exact hk (us, p.2) ⟨by intro z; have z : us = [] := z; rw [z] at l; exact o.ne (List.length_eq_zero_iff.mp l.symm), by have := o.len; show us.length ≤ 100; omega, b⟩
      ((conv => whnf); repeat' (first | (refine wIf_tt ?_; conv => whnf) | (refine wIf_ff ?_; conv => whnf) | (refine wIf.mk (fun hif => (have hif := of_decide_eq_true hif; ?_)) (fun hif => (have hif := of_decide_eq_false hif; ?_)) <;> (conv => whnf)) | (refine wIf_not ?_) | (refine ⟨(by decide : (_ : Int) ≠ 0), fun w _ hw => ?_⟩; replace hw := hw (by decide); conv => whnf) | (refine ⟨(by decide : (_ : Int) ≠ 0), div_lit (by decide), fun w _ hw => ?_⟩; replace hw := hw (by decide); conv => whnf) | (refine eq_rD ?_; conv => whnf) | (refine eq_ts ?_; conv => whnf) | (refine ne_ts ?_; conv => whnf) | (refine ne_rD ?_; conv => whnf) | (refine eq_vD ?_; conv => whnf) | (refine ne_vD ?_; conv => whnf) | (refine ⟨isi_ok rfl, ?_⟩; conv => whnf) | (apply wMulS.mk; (first | exact mul_l (by decide) (by decide) | exact mul_r (by decide) (by decide) | exact mul_ok (by l_ints) (by l_ints) (by decide)); conv => whnf) | (refine ⟨⟨by decide, by decide, by decide⟩, ?_⟩; conv => whnf) | (refine ⟨⟨by decide, by decide, by omega⟩, ?_⟩; conv => whnf) | (refine ⟨small_sz (Nat.le_of_ble_eq_true rfl), ?_⟩; conv => whnf) | fail))
      exact q us (by intro z; rw [z] at hul; exact NE (List.length_eq_zero_iff.mp hul.symm)) (by have := LE; omega) huo
    · exact q qs NE (by have := LE; omega) fun p hp => ⟨(HQ p hp).ne, by have := (HQ p hp).len; omega, fun v hv => ((HQ p hp).vb v hv).mono (by decide)⟩
  · conv => whnf
    have HQ := h7
    have LE : ps.length ≤ 65 := by omega
    have NE := pne
    rw [a0]
    conv => whnf
    refine mx _ _ _ (by decide) fun z4 hz41 => ?_
    ((conv => whnf); repeat' (first | (refine wIf_tt ?_; conv => whnf) | (refine wIf_ff ?_; conv => whnf) | (refine wIf.mk (fun hif => (have hif := of_decide_eq_true hif; ?_)) (fun hif => (have hif := of_decide_eq_false hif; ?_)) <;> (conv => whnf)) | (refine wIf_not ?_) | (refine ⟨(by decide : (_ : Int) ≠ 0), fun w _ hw => ?_⟩; replace hw := hw (by decide); conv => whnf) | (refine ⟨(by decide : (_ : Int) ≠ 0), div_lit (by decide), fun w _ hw => ?_⟩; replace hw := hw (by decide); conv => whnf) | (refine eq_rD ?_; conv => whnf) | (refine eq_ts ?_; conv => whnf) | (refine ne_ts ?_; conv => whnf) | (refine ne_rD ?_; conv => whnf) | (refine eq_vD ?_; conv => whnf) | (refine ne_vD ?_; conv => whnf) | (refine ⟨isi_ok rfl, ?_⟩; conv => whnf) | (apply wMulS.mk; (first | exact mul_l (by decide) (by decide) | exact mul_r (by decide) (by decide) | exact mul_ok (by l_ints) (by l_ints) (by decide)); conv => whnf) | (refine ⟨⟨by decide, by decide, by decide⟩, ?_⟩; conv => whnf) | (refine ⟨⟨by decide, by decide, by omega⟩, ?_⟩; conv => whnf) | (refine ⟨small_sz (Nat.le_of_ble_eq_true rfl), ?_⟩; conv => whnf) | fail))
    · refine lc_each (t := .nm 7) prD prD (PrOk 500 100) ps (fun p hp k hk => ?_) fun us hul huo => ?_
      · have o := HQ p hp
        conv => whnf
        refine gC g62 ⟨p.1, rfl, o.vb, fun us l b => ?_⟩
        ((conv => whnf); repeat' (first | (refine wIf_tt ?_; conv => whnf) | (refine wIf_ff ?_; conv => whnf) | (refine wIf.mk (fun hif => (have hif := of_decide_eq_true hif; ?_)) (fun hif => (have hif := of_decide_eq_false hif; ?_)) <;> (conv => whnf)) | (refine wIf_not ?_) | (refine ⟨(by decide : (_ : Int) ≠ 0), fun w _ hw => ?_⟩; replace hw := hw (by decide); conv => whnf) | (refine ⟨(by decide : (_ : Int) ≠ 0), div_lit (by decide), fun w _ hw => ?_⟩; replace hw := hw (by decide); conv => whnf) | (refine eq_rD ?_; conv => whnf) | (refine eq_ts ?_; conv => whnf) | (refine ne_ts ?_; conv => whnf) | (refine ne_rD ?_; conv => whnf) | (refine eq_vD ?_; conv => whnf) | (refine ne_vD ?_; conv => whnf) | (refine ⟨isi_ok rfl, ?_⟩; conv => whnf) | (apply wMulS.mk; (first | exact mul_l (by decide) (by decide) | exact mul_r (by decide) (by decide) | exact mul_ok (by l_ints) (by l_ints) (by decide)); conv => whnf) | (refine ⟨⟨by decide, by decide, by decide⟩, ?_⟩; conv => whnf) | (refine ⟨⟨by decide, by decide, by omega⟩, ?_⟩; conv => whnf) | (refine ⟨small_sz (Nat.le_of_ble_eq_true rfl), ?_⟩; conv => whnf) | fail))
        exact hk (us, p.2) ⟨by intro z; have z : us = [] := z; rw [z] at l; exact o.ne (List.length_eq_zero_iff.mp l.symm), by have := o.len; show us.length ≤ 100; omega, b⟩
      ((conv => whnf); repeat' (first | (refine wIf_tt ?_; conv => whnf) | (refine wIf_ff ?_; conv => whnf) | (refine wIf.mk (fun hif => (have hif := of_decide_eq_true hif; ?_)) (fun hif => (have hif := of_decide_eq_false hif; ?_)) <;> (conv => whnf)) | (refine wIf_not ?_) | (refine ⟨(by decide : (_ : Int) ≠ 0), fun w _ hw => ?_⟩; replace hw := hw (by decide); conv => whnf) | (refine ⟨(by decide : (_ : Int) ≠ 0), div_lit (by decide), fun w _ hw => ?_⟩; replace hw := hw (by decide); conv => whnf) | (refine eq_rD ?_; conv => whnf) | (refine eq_ts ?_; conv => whnf) | (refine ne_ts ?_; conv => whnf) | (refine ne_rD ?_; conv => whnf) | (refine eq_vD ?_; conv => whnf) | (refine ne_vD ?_; conv => whnf) | (refine ⟨isi_ok rfl, ?_⟩; conv => whnf) | (apply wMulS.mk; (first | exact mul_l (by decide) (by decide) | exact mul_r (by decide) (by decide) | exact mul_ok (by l_ints) (by l_ints) (by decide)); conv => whnf) | (refine ⟨⟨by decide, by decide, by decide⟩, ?_⟩; conv => whnf) | (refine ⟨⟨by decide, by decide, by omega⟩, ?_⟩; conv => whnf) | (refine ⟨small_sz (Nat.le_of_ble_eq_true rfl), ?_⟩; conv => whnf) | fail))
      exact q us (by intro z; rw [z] at hul; exact NE (List.length_eq_zero_iff.mp hul.symm)) (by have := LE; omega) huo
    · exact q ps NE (by have := LE; omega) fun p hp => ⟨(HQ p hp).ne, by have := (HQ p hp).len; omega, fun v hv => ((HQ p hp).vb v hv).mono (by decide)⟩
end DL
end
section
set_option maxRecDepth 100000
set_option maxHeartbeats 4000000
set_option exponentiation.threshold 100000
namespace DL
open PySem L2
local macro_rules | `(tactic| l_ints) => `(tactic| first | (assumption) | (apply Bd.neg; l_ints) | (apply Bd.mul <;> l_ints) | (exact bd40 (by omega) (by omega)) | (apply Bd.add <;> l_ints) | (apply Bd.sub <;> l_ints) | (exact bd130 (by omega) (by omega)) | (exact bd210 (by omega) (by omega)) | (exact bd_self _) | fail)
abbrev Sh := Nat × Rat
def shD (s : Sh) : D := .tuple [.int s.1, rD s.2]
def sharesD (ss : List Sh) : D := .tuple (ss.map shD)
structure ShOk (n : Nat) (s : Sh) : Prop where
  lt : s.1 < n
  pos : 0 < s.2.num
  rb : RB 67 s.2
structure Good (n : Nat) (ss : List Sh) : Prop where
  len : ss.length ≤ 100
  ok : ∀ s ∈ ss, ShOk n s
  up : ss.Pairwise fun a b => a.1 < b.1
def prd (ss : List Sh) : Int := ss.foldl (fun b s => b * s.2.den) 1
theorem prd_snoc (ss : List Sh) (s : Sh) : prd (ss ++ [s]) = prd ss * s.2.den := by unfold prd; rw [List.foldl_append]; rfl
def tot (f : Nat → Int) (B : Int) (ss : List Sh) : Int := (ss.map fun s => f s.1 * s.2.num * (B / s.2.den)).sum
def qtot (f : Nat → Int) (ss : List Sh) : Rat := ss.foldl (fun a s => a + (f s.1 : Rat) * s.2) 0
theorem qtot_snoc (f : Nat → Int) (ss : List Sh) (s : Sh) : qtot f (ss ++ [s]) = qtot f ss + (f s.1 : Rat) * s.2 := by unfold qtot; rw [List.foldl_append]; rfl
theorem tot_snoc (f : Nat → Int) (B : Int) (ss : List Sh) (s : Sh) : tot f B (ss ++ [s]) = tot f B ss + f s.1 * s.2.num * (B / s.2.den) := by
  unfold tot
  rw [List.map_append, List.sum_append]
  simp
theorem snoc_ind {α : Type} {P : List α → Prop} (h0 : P []) (h1 : ∀ xs x, P xs → P (xs ++ [x])) (xs : List α) : P xs := by
  have : ∀ ys : List α, P ys.reverse := fun ys => by
    induction ys with
    | nil => exact h0
    | cons y ys ih => rw [List.reverse_cons]; exact h1 _ _ ih
  have h := this xs.reverse
  rwa [List.reverse_reverse] at h
theorem prd_pos (ss : List Sh) : 0 < prd ss := by
  refine snoc_ind (P := fun ss => 0 < prd ss) (by decide) (fun xs x h => ?_) ss
  rw [prd_snoc]
  exact Int.mul_pos h (by have := x.2.den_pos; omega)
theorem prd_dvd (ss : List Sh) : ∀ s ∈ ss, (s.2.den : Int) ∣ prd ss := by
  refine snoc_ind (P := fun ss => ∀ s ∈ ss, (s.2.den : Int) ∣ prd ss) (by simp) (fun xs x h s hs => ?_) ss
  rw [prd_snoc]
  rcases List.mem_append.mp hs with g | g
  · exact Int.dvd_trans (h s g) ⟨_, rfl⟩
  · rw [List.mem_singleton.mp g]
    exact ⟨prd xs, Int.mul_comm _ _⟩
theorem prd_bd (ss : List Sh) (h : ∀ s ∈ ss, RB 67 s.2) : Bd (67 * ss.length + 1) (prd ss) := by
  revert h
  refine snoc_ind (P := fun ss => (∀ s ∈ ss, RB 67 s.2) → Bd (67 * ss.length + 1) (prd ss)) (fun _ => by decide) (fun xs x ih h => ?_) ss
  rw [prd_snoc]
  refine ((ih fun s hs => h s (List.mem_append_left _ hs)).mul (h x (by simp)).2).mono ?_
  rw [List.length_append, List.length_singleton]
  omega
theorem divInt_add_same (a b c : Int) (hc : c ≠ 0) : Rat.divInt (a + b) c = Rat.divInt a c + Rat.divInt b c := by
  rw [Rat.divInt_add_divInt _ _ hc hc, ← Int.add_mul]
  exact (Rat.divInt_mul_right hc).symm
theorem term_q (f : Int) (r : Rat) (B : Int) (hB : B ≠ 0) (h : (r.den : Int) ∣ B) : Rat.divInt (f * r.num * (B / r.den)) B = (f : Rat) * r := by
  obtain ⟨c, rfl⟩ := h
  have hd := den_ne r
  have hc : c ≠ 0 := by intro z; subst z; simp at hB
  rw [Int.mul_ediv_cancel_left _ hd, Rat.divInt_mul_right hc]
  have := rat_mul (f : Rat) r
  simpa using this
theorem tot_q (f : Nat → Int) (B : Int) (hB : B ≠ 0) (ss : List Sh) (h : ∀ s ∈ ss, (s.2.den : Int) ∣ B) : Rat.divInt (tot f B ss) B = qtot f ss := by
  revert h
  refine snoc_ind (P := fun ss => (∀ s ∈ ss, (s.2.den : Int) ∣ B) → Rat.divInt (tot f B ss) B = qtot f ss) (fun _ => ?_) (fun xs x ih h => ?_) ss
  · simp [tot, qtot]
  · rw [tot_snoc, qtot_snoc, divInt_add_same _ _ _ hB, ih fun s hs => h s (List.mem_append_left _ hs), term_q _ _ _ hB (h x (by simp))]
theorem tot_le (f : Nat → Int) (k m : Nat) (hf : ∀ i, Bd k (f i)) (B : Int) (hB : Bd m B) (ss : List Sh) (h : ∀ s ∈ ss, RB 67 s.2) : (tot f B ss).natAbs ≤ ss.length * 2 ^ (k + 67 + m) := by
  revert h
  refine snoc_ind (P := fun ss => (∀ s ∈ ss, RB 67 s.2) → (tot f B ss).natAbs ≤ ss.length * 2 ^ (k + 67 + m)) (fun _ => by simp [tot]) (fun xs x ih h => ?_) ss
  rw [tot_snoc, List.length_append, List.length_singleton, Nat.add_mul, Nat.one_mul]
  have h1 := ih fun s hs => h s (List.mem_append_left _ hs)
  have h2 : Bd (k + 67 + m) (f x.1 * x.2.num * (B / x.2.den)) := ((hf _).mul (h x (by simp)).1).mul (ediv_bd _ hB)
  have h2 := Nat.le_of_lt h2
  exact Nat.le_trans (Int.natAbs_add_le _ _) (Nat.add_le_add h1 h2)
theorem tot_bd (f : Nat → Int) (k m : Nat) (hf : ∀ i, Bd k (f i)) (B : Int) (hB : Bd m B) (ss : List Sh) (hl : ss.length ≤ 100) (h : ∀ s ∈ ss, RB 67 s.2) : Bd (7 + (k + 67 + m)) (tot f B ss) := by
  refine Nat.lt_of_le_of_lt (tot_le f k m hf B hB ss h) ?_
  rw [show (2 : Nat) ^ (7 + (k + 67 + m)) = 2 ^ 7 * 2 ^ (k + 67 + m) from Nat.pow_add ..]
  have h7 : ss.length < 2 ^ 7 := by omega
  have h8 : 0 < 2 ^ (k + 67 + m) := Nat.pow_pos (by decide)
  exact (Nat.mul_lt_mul_right h8).mpr h7
theorem prd_bd2 {ss : List Sh} (hl : ss.length ≤ 100) (h : ∀ s ∈ ss, RB 67 s.2) : Bd 6701 (prd ss) := (prd_bd ss h).mono (by omega)
theorem qtot_rb (f : Nat → Int) (k : Nat) (hf : ∀ i, Bd k (f i)) {ss : List Sh} (hl : ss.length ≤ 100) (h : ∀ s ∈ ss, RB 67 s.2) : RB (k + 6775) (qtot f ss) := by
  have b := prd_bd2 hl h
  have p := prd_pos ss
  rw [← tot_q f (prd ss) (by omega) ss (prd_dvd ss)]
  exact RB.divInt ((tot_bd f k 6701 hf _ b ss hl h).mono (by omega)) (b.mono (by omega)) (by omega)
theorem qtot_pb (f g : Nat → Int) (k : Nat) (hf : ∀ i, Bd k (f i)) (hg : ∀ i, Bd k (g i)) {ss : List Sh} (hl : ss.length ≤ 100) (h : ∀ s ∈ ss, RB 67 s.2) : PB (k + 6775) (qtot f ss) (qtot g ss) := by
  have b := prd_bd2 hl h
  have p := prd_pos ss
  rw [← tot_q f (prd ss) (by omega) ss (prd_dvd ss), ← tot_q g (prd ss) (by omega) ss (prd_dvd ss)]
  exact PB.low p ((tot_bd f k 6701 hf _ b ss hl h).mono (by omega)) ((tot_bd g k 6701 hg _ b ss hl h).mono (by omega)) (b.mono (by omega))
def vAt (vs : List Vec) (i : Nat) : Vec := vs.getD i (0, 0)
theorem vAt_bd {k : Nat} {vs : List Vec} (h : ∀ v ∈ vs, VB k v) (i : Nat) : VB k (vAt vs i) := by
  unfold vAt
  rw [List.getD_eq_getElem?_getD]
  cases e : vs[i]? with
  | none => exact ⟨by unfold Bd; exact Nat.pow_pos (by decide), by unfold Bd; exact Nat.pow_pos (by decide)⟩
  | some v => exact h v (List.mem_of_getElem? e)
theorem atI_v {vs : List Vec} {i : Nat} (h : i < vs.length) : atI (vs.map vD) (i : Int) = some (vD (vAt vs i)) := by
  rw [atI_at (by omega) (by rw [List.length_map]; omega)]
  rw [Int.toNat_natCast, List.getElem?_map]
  unfold vAt
  rw [List.getD_eq_getElem?_getD, List.getElem?_eq_getElem h]
  rfl
end DL
end
section
namespace DL
def m_farthest_by : Ss := (.cons (.ret (.bi .sum1 (.cons (.lc (.bin .Add (.call 34 (.cons (.v 2) (.cons (.v 1) .nil))) (.call 33 (.cons (.v 1) (.cons (.v 3) .nil)))) (.tp [2, 3]) (.ex (.v 0)) .nil [("wind", 2), ("stream", 3)]) .nil))) .nil)
end DL
end
section
namespace DL
def m_law_dot : Ss := (.cons (.ret (.bin .Add (.bin .Mult (.ix (.v 0) (.int 0)) (.ix (.v 1) (.int 0))) (.bin .Mult (.ix (.v 0) (.int 1)) (.ix (.v 1) (.int 1))))) .nil)
end DL
end
section
namespace DL
def m_law_far : Ss := (.cons (.set 2 (.int 0)) (.cons (.for_ (.tp [3, 4]) (.ex (.v 0)) (.cons (.set 2 (.bin .Add (.bin .Add (.v 2) (.bi .max1 (.cons (.lc (.call 48 (.cons (.v 1) (.cons (.v 5) .nil))) (.nm 5) (.ex (.v 3)) .nil [("heading", 5)]) .nil))) (.call 48 (.cons (.v 1) (.cons (.v 4) .nil))))) .nil)) (.cons (.ret (.v 2)) .nil)))
end DL
end
section
namespace DL
def m_law_6 : Ss := (.cons (.set 1 (.call 47 (.cons (.v 0) .nil))) (.cons (.set 2 (.call 42 (.cons (.v 0) (.cons (.int 0) .nil)))) (.cons (.set 3 (.lst (.cons (.tup (.cons (.int 1) (.cons (.int 0) .nil))) .nil))) (.cons (.for_ (.nm 4) (.rng1 (.int 4)) (.cons (.set 5 (.ix (.lst (.cons (.int 4) (.cons (.bin .Pow (.int 10) (.int 20)) .nil))) (.call 43 (.cons (.v 2) (.cons (.bin .Add (.int 21) (.v 4)) (.cons (.int 2) .nil)))))) (.cons (.set 6 (.tup (.cons (.bin .Sub (.call 43 (.cons (.v 2) (.cons (.bin .Add (.int 31) (.v 4)) (.cons (.bin .Add (.bin .Mult (.int 2) (.v 5)) (.int 1)) .nil)))) (.v 5)) (.cons (.bin .Sub (.call 43 (.cons (.v 2) (.cons (.bin .Add (.int 41) (.v 4)) (.cons (.bin .Add (.bin .Mult (.int 2) (.v 5)) (.int 1)) .nil)))) (.v 5)) .nil)))) (.cons (.ifs (.cmp .NotEq (.v 6) (.tup (.cons (.int 0) (.cons (.int 0) .nil)))) (.cons (.app 3 (.v 6)) .nil) .nil) .nil)))) (.cons (.frz 3) (.cons (.for_ (.nm 6) (.ex (.v 3)) (.cons (.set 7 (.call 41 (.cons (.v 1) (.cons (.v 6) .nil)))) (.cons (.ifs (.or (.not (.isi (.v 7) "int")) (.or (.isi (.v 7) "bool") (.cmp .NotEq (.v 7) (.call 49 (.cons (.v 1) (.cons (.v 6) .nil)))))) (.cons (.ret (.bl false)) .nil) .nil) .nil))) (.cons (.ret (.cmp .Eq (.call 41 (.cons (.tup .nil) (.cons (.ix (.v 3) (.neg (.int 1))) .nil))) (.int 0))) .nil)))))))
end DL
end
section
set_option maxRecDepth 100000
set_option maxHeartbeats 4000000
set_option exponentiation.threshold 100000
namespace DL
open PySem L2
local macro_rules | `(tactic| l_ints) => `(tactic| first | (assumption) | (apply Bd.neg; l_ints) | (apply Bd.mul <;> l_ints) | (exact bd40 (by omega) (by omega)) | (apply Bd.add <;> l_ints) | (apply Bd.sub <;> l_ints) | (exact bd130 (by omega) (by omega)) | (exact bd210 (by omega) (by omega)) | (exact bd_self _) | fail)
theorem bd300 {x : Int} (h : -(2 ^ 90) < x) (g : x < 2 ^ 90) : Bd 300 x := Bd.mono (bd_of (n := 90) h g) (by decide)
theorem IsFar.ex (b : Vec) : ∀ {vs : List Vec}, vs ≠ [] → ∃ m, IsFar vs b m := by
  intro vs
  induction vs with
  | nil => exact fun h => (h rfl).elim
  | cons v vs ih =>
    intro _
    by_cases h : vs = []
    · subst h
      exact ⟨dot v b, ⟨v, by simp, rfl⟩, by simp⟩
    · obtain ⟨m, ⟨u, h1, h2⟩, h3⟩ := ih h
      by_cases c : m ≤ dot v b
      · exact ⟨dot v b, ⟨v, by simp, rfl⟩, fun w hw => by
          rcases List.mem_cons.mp hw with e | e
          · rw [e]; exact Int.le_refl _
          · exact Int.le_trans (h3 w e) c⟩
      · exact ⟨m, ⟨u, by simp [h1], h2⟩, fun w hw => by
          rcases List.mem_cons.mp hw with e | e
          · rw [e]; omega
          · exact h3 w e⟩
open Classical in
noncomputable def mx (vs : List Vec) (b : Vec) : Int := if h : ∃ m, IsFar vs b m then Classical.choose h else 0
theorem mx_eq {vs : List Vec} {b : Vec} {m : Int} (h : IsFar vs b m) : m = mx vs b := by
  have e : ∃ m, IsFar vs b m := ⟨m, h⟩
  unfold mx
  rw [dif_pos e]
  exact h.uniq (Classical.choose_spec e)
noncomputable def lead (b : Vec) (w : Wt) : Int := mx w.1 b + dot b w.2
noncomputable def leads (b : Vec) (ws : List Wt) : Int := (ws.map (lead b)).sum
def watD (ws : List Wt) : D := .tuple (ws.map wtD)
def sp_farthest_by : DSp := fun ds Q X => ∃ (ws : List Wt) (b : Vec) (k m n : Nat), ds = [watD ws, vD b] ∧ (∀ w ∈ ws, WtOk k n w) ∧ VB m b ∧ k + m ≤ 999990 ∧ Q (.d (.int (leads b ws)))
theorem p_farthest_by {G : Nat → DSp} (g34 : G 34 = sp_farthest) (g33 : G 33 = sp_dot_of) : FnW G 4 2 m_farthest_by sp_farthest_by := by
  intro ds Q X ⟨ws, b, k, m, n, e, hw, hb, l, q⟩
  subst e
  refine ⟨rfl, ?_⟩
  conv => whnf
  refine lc_map1 (t := .tp [2, 3]) wtD (fun w => .int (lead b w)) ws (fun w hm k2 hk => ?_) ?_
  · have o := hw w hm
    conv => whnf
    refine gC g34 ⟨w.1, b, k, m, rfl, o.ne, o.vb, hb, l, fun f hf => ?_⟩
    rw [mx_eq hf]
    conv => whnf
    refine gC g33 ⟨b, w.2, m, k, rfl, hb, o.st, by omega, ?_⟩
    conv => whnf
    exact hk
  conv => whnf
  refine ⟨ws.map (lead b), by rw [List.map_map]; rfl, ?_⟩
  conv => whnf
  exact q
def sp_dot3 : DSp := fun ds Q X => ∃ (u : Vec) (x y z : Int) (k m : Nat), ds = [vD u, .tuple [.int x, .int y, .int z]] ∧ VB k u ∧ Bd m x ∧ Bd m y ∧ k + m ≤ 999990 ∧ Q (.d (.int (u.1 * x + u.2 * y)))
def sp_law_dot : DSp := fun ds Q X => sp_dot_of ds Q X ∨ sp_dot3 ds Q X
theorem p_law_dot {G : Nat → DSp} : FnW G 2 2 m_law_dot sp_law_dot := by
  intro ds Q X h
  rcases h with h | ⟨u, x, y, z, k, m, e, hu, hx, hy, l, q⟩
  · exact p_dot_of ds Q X h
  subst e
  refine ⟨rfl, ?_⟩
  conv => whnf
  refine ⟨mul_ok hu.1 hx (by omega), ?_⟩
  conv => whnf
  refine ⟨mul_ok hu.2 hy (by omega), ?_⟩
  conv => whnf
  exact q
theorem dot_comm (u v : Vec) : dot u v = dot v u := by unfold dot; rw [Int.mul_comm, Int.mul_comm u.2]
def sp_law_far : DSp := sp_farthest_by
theorem p_law_far {G : Nat → DSp} (g48 : G 48 = sp_law_dot) : FnW G 6 2 m_law_far sp_law_far := by
  intro ds Q X ⟨ws, b, k, m, n, e, hw, hb, l, q⟩
  subst e
  refine ⟨rfl, ?_⟩
  conv => whnf
  refine ⟨rfl, ?_⟩
  refine forLoop_ind (fun ds ρ => ∃ (ps qs : List Wt) (x y z : Option DL.R), ds = qs.map wtD ∧ ps ++ qs = ws ∧ ρ = [some (.d (watD ws)), some (.d (vD b)), some (.d (.int (leads b ps))), x, y, z]) ?_ ?_ _ _ ⟨[], ws, none, none, none, rfl, rfl, rfl⟩
  · rintro ρ ⟨ps, qs, x, y, z, e1, e2, rfl⟩
    have : qs = [] := by simpa using e1.symm
    subst this
    rw [List.append_nil] at e2
    subst e2
    conv => whnf
    exact q
  rintro d ds ρ ⟨ps, qs, x, y, z, e1, e2, rfl⟩ nx hnx
  cases qs with
  | nil => cases e1
  | cons w qs =>
    cases e1
    have hm : w ∈ ws := by rw [← e2]; simp
    have o := hw w hm
    conv => whnf
    refine lc_map1 (t := .nm 5) vD (fun v => .int (dot v b)) w.1 (fun v hm k2 hk => ?_) ?_
    · conv => whnf
      refine gC g48 (.inl ⟨b, v, m, k, rfl, hb, o.vb v hm, by omega, ?_⟩)
      conv => whnf
      rw [dot_comm]
      exact hk
    conv => whnf
    refine ⟨w.1.map fun v => dot v b, by rw [List.map_map]; rfl, by rw [List.length_map]; exact List.length_pos_iff.mpr o.ne, fun f h1 h2 => ?_⟩
    conv => whnf
    obtain ⟨v, h3, h4⟩ := List.mem_map.mp h1
    have hf : IsFar w.1 b f := ⟨⟨v, h3, h4⟩, fun u hu => h2 _ (List.mem_map.mpr ⟨u, hu, rfl⟩)⟩
    rw [mx_eq hf]
    refine gC g48 (.inl ⟨b, w.2, m, k, rfl, hb, o.st, by omega, ?_⟩)
    conv => whnf
    have key : leads b (ps ++ [w]) = leads b ps + mx w.1 b + dot b w.2 := by
      unfold leads
      rw [List.map_append, List.sum_append]
      simp [lead]
      omega
    have hh := fun x y z => hnx _ ⟨ps ++ [w], qs, x, y, z, rfl, by simpa using e2, rfl⟩
    rw [key] at hh
    exact hh _ _ _
def sp_law_6 : DSp := fun ds Q X => ∃ (ns : List Int), ds = [.list (ns.map .int)] ∧ ns.length ≤ 63 ∧ Q (.d (.bool true))
theorem p_law_6 {G : Nat → DSp} (g47 : G 47 = sp_law_watches) (g42 : G 42 = sp_law_cell_at) (g43 : G 43 = sp_law_draw) (g41 : G 41 = sp_farthest_by) (g49 : G 49 = sp_law_far) : FnW G 8 1 m_law_6 sp_law_6 := by
  intro ds Q X ⟨ns, e, _, q⟩
  subst e
  refine ⟨rfl, ?_⟩
  conv => whnf
  refine gC g47 ⟨ns, rfl, fun ws hl hw => ?_⟩
  conv => whnf
  refine gC g42 ⟨ns, 0, rfl, fun base hbase => ?_⟩
  have dr : ∀ (a k m : Int) (W : R → Prop) {X : Nat → Prop}, (0 ≤ k ∧ k ≤ 1000000 ∧ 0 < m) → (∀ z : Int, 0 ≤ z → z < m → W (.d (.int z))) → G 43 [.int a, .int k, .int m] W X := fun a k m W _ hh h => gC g43 ⟨a, k, m, rfl, hh.1, hh.2.1, hh.2.2, h⟩
  ((conv => whnf); repeat' (first | (refine wIf_tt ?_; conv => whnf) | (refine wIf_ff ?_; conv => whnf) | (refine wIf.mk (fun hif => (have hif := of_decide_eq_true hif; ?_)) (fun hif => (have hif := of_decide_eq_false hif; ?_)) <;> (conv => whnf)) | (refine wIf_not ?_) | (refine ⟨(by decide : (_ : Int) ≠ 0), fun w _ hw => ?_⟩; replace hw := hw (by decide); conv => whnf) | (refine ⟨(by decide : (_ : Int) ≠ 0), div_lit (by decide), fun w _ hw => ?_⟩; replace hw := hw (by decide); conv => whnf) | (refine eq_rD ?_; conv => whnf) | (refine eq_ts ?_; conv => whnf) | (refine ne_ts ?_; conv => whnf) | (refine ne_rD ?_; conv => whnf) | (refine eq_vD ?_; conv => whnf) | (refine ne_vD ?_; conv => whnf) | (refine ⟨isi_ok rfl, ?_⟩; conv => whnf) | (apply wMulS.mk; (first | exact mul_l (by decide) (by decide) | exact mul_r (by decide) (by decide) | exact mul_ok (by l_ints) (by l_ints) (by decide)); conv => whnf) | (refine ⟨⟨by decide, by decide, by decide⟩, ?_⟩; conv => whnf) | (refine ⟨⟨by decide, by decide, by omega⟩, ?_⟩; conv => whnf) | (refine ⟨small_sz (Nat.le_of_ble_eq_true rfl), ?_⟩; conv => whnf) | fail))
  refine ⟨by decide, by decide, ?_⟩
  conv => whnf
  refine ⟨rfl, ?_⟩
  refine rng_ind (fun i ρ => i ≤ 4 ∧ ∃ (bs : List Vec) (a b c d : Option DL.R), bs ≠ [] ∧ bs.length ≤ 1 + i ∧ (∀ v ∈ bs, VB 300 v) ∧ ρ = [some (.d (.list (ns.map .int))), some (.d (watD ws)), some (.d (.int base)), some (.l (bs.map vD) true), a, b, c, d]) _ ?_ ?_ _ ⟨by decide, [(1, 0)], none, none, none, none, by simp, by simp, fun v hv => by rw [List.mem_singleton.mp hv]; exact ⟨(by decide : Bd 300 1), (by decide : Bd 300 0)⟩, rfl⟩
  case refine_2 =>
    rintro i ρ hi ⟨_, bs, a, b, c, d, h0, h1, h2, rfl⟩ nx hnx
    have hi : i < 4 := hi
    ((conv => whnf); repeat' (first | (refine wIf_tt ?_; conv => whnf) | (refine wIf_ff ?_; conv => whnf) | (refine wIf.mk (fun hif => (have hif := of_decide_eq_true hif; ?_)) (fun hif => (have hif := of_decide_eq_false hif; ?_)) <;> (conv => whnf)) | (refine wIf_not ?_) | (refine ⟨(by decide : (_ : Int) ≠ 0), fun w _ hw => ?_⟩; replace hw := hw (by decide); conv => whnf) | (refine ⟨(by decide : (_ : Int) ≠ 0), div_lit (by decide), fun w _ hw => ?_⟩; replace hw := hw (by decide); conv => whnf) | (refine eq_rD ?_; conv => whnf) | (refine eq_ts ?_; conv => whnf) | (refine ne_ts ?_; conv => whnf) | (refine ne_rD ?_; conv => whnf) | (refine eq_vD ?_; conv => whnf) | (refine ne_vD ?_; conv => whnf) | (refine ⟨isi_ok rfl, ?_⟩; conv => whnf) | (apply wMulS.mk; (first | exact mul_l (by decide) (by decide) | exact mul_r (by decide) (by decide) | exact mul_ok (by l_ints) (by l_ints) (by decide)); conv => whnf) | (refine ⟨⟨by decide, by decide, by decide⟩, ?_⟩; conv => whnf) | (refine ⟨⟨by decide, by decide, by omega⟩, ?_⟩; conv => whnf) | (refine ⟨small_sz (Nat.le_of_ble_eq_true rfl), ?_⟩; conv => whnf) | fail))
    refine dr _ (21 + (i : Int)) 2 _ ⟨by omega, by omega, by decide⟩ fun z hz1 hz2 => ?_
    ((conv => whnf); repeat' (first | (refine wIf_tt ?_; conv => whnf) | (refine wIf_ff ?_; conv => whnf) | (refine wIf.mk (fun hif => (have hif := of_decide_eq_true hif; ?_)) (fun hif => (have hif := of_decide_eq_false hif; ?_)) <;> (conv => whnf)) | (refine wIf_not ?_) | (refine ⟨(by decide : (_ : Int) ≠ 0), fun w _ hw => ?_⟩; replace hw := hw (by decide); conv => whnf) | (refine ⟨(by decide : (_ : Int) ≠ 0), div_lit (by decide), fun w _ hw => ?_⟩; replace hw := hw (by decide); conv => whnf) | (refine eq_rD ?_; conv => whnf) | (refine eq_ts ?_; conv => whnf) | (refine ne_ts ?_; conv => whnf) | (refine ne_rD ?_; conv => whnf) | (refine eq_vD ?_; conv => whnf) | (refine ne_vD ?_; conv => whnf) | (refine ⟨isi_ok rfl, ?_⟩; conv => whnf) | (apply wMulS.mk; (first | exact mul_l (by decide) (by decide) | exact mul_r (by decide) (by decide) | exact mul_ok (by l_ints) (by l_ints) (by decide)); conv => whnf) | (refine ⟨⟨by decide, by decide, by decide⟩, ?_⟩; conv => whnf) | (refine ⟨⟨by decide, by decide, by omega⟩, ?_⟩; conv => whnf) | (refine ⟨small_sz (Nat.le_of_ble_eq_true rfl), ?_⟩; conv => whnf) | fail))
    obtain ⟨far, e1, hs⟩ := pick2 (i := z) (a := 4) (b := 10 ^ (20 : Int).toNat) (by omega) (by omega)
    have hp : (10 : Int) ^ (20 : Int).toNat = 10 ^ 20 := rfl
    have hf : 4 ≤ far ∧ far ≤ 10 ^ 20 := by omega
    rw [e1]
    ((conv => whnf); repeat' (first | (refine dr _ (31 + (i : Int)) (2 * far + 1) _ ⟨by omega, by omega, by omega⟩ fun z hz1 hz2 => ?_; conv => whnf) | (refine dr _ (41 + (i : Int)) (2 * far + 1) _ ⟨by omega, by omega, by omega⟩ fun z hz1 hz2 => ?_; conv => whnf) | (refine wIf_tt ?_; conv => whnf) | (refine wIf_ff ?_; conv => whnf) | (refine wIf.mk (fun hif => (have hif := of_decide_eq_true hif; ?_)) (fun hif => (have hif := of_decide_eq_false hif; ?_)) <;> (conv => whnf)) | (refine wIf_not ?_) | (refine ⟨(by decide : (_ : Int) ≠ 0), fun w _ hw => ?_⟩; replace hw := hw (by decide); conv => whnf) | (refine ⟨(by decide : (_ : Int) ≠ 0), div_lit (by decide), fun w _ hw => ?_⟩; replace hw := hw (by decide); conv => whnf) | (refine eq_rD ?_; conv => whnf) | (refine eq_ts ?_; conv => whnf) | (refine ne_ts ?_; conv => whnf) | (refine ne_rD ?_; conv => whnf) | (refine eq_vD ?_; conv => whnf) | (refine ne_vD ?_; conv => whnf) | (refine ⟨isi_ok rfl, ?_⟩; conv => whnf) | (apply wMulS.mk; (first | exact mul_l (by decide) (by decide) | exact mul_r (by decide) (by decide) | exact mul_ok (by l_ints) (by l_ints) (by decide)); conv => whnf) | (refine ⟨⟨by decide, by decide, by decide⟩, ?_⟩; conv => whnf) | (refine ⟨⟨by decide, by decide, by omega⟩, ?_⟩; conv => whnf) | (refine ⟨small_sz (Nat.le_of_ble_eq_true rfl), ?_⟩; conv => whnf) | fail))
    · exact hnx _ ⟨by omega, bs, _, _, _, _, h0, by omega, h2, rfl⟩
    · refine ⟨by simp; exact small_lt (by omega), ?_⟩
      conv => whnf
      refine hnx _ ⟨by omega, bs ++ [(_, _)], _, _, _, _, by simp, by simp; omega, fun u hu => ?_, by rw [List.map_append]; rfl⟩
      rcases List.mem_append.mp hu with h | h
      · exact h2 u h
      · rw [List.mem_singleton.mp h]; exact ⟨bd300 (by omega) (by omega), bd300 (by omega) (by omega)⟩
  rintro ρ ⟨_, bs, a, b, c, d, h0, h1, h2, rfl⟩
  conv => whnf
  refine ⟨rfl, ?_⟩
  refine forLoop_ind (fun ds ρ => ∃ (zs : List Vec) (a b c d : Option DL.R), ds = zs.map vD ∧ (∀ v ∈ zs, VB 300 v) ∧ ρ = [some (.d (.list (ns.map .int))), some (.d (watD ws)), some (.d (.int base)), some (.d (.list (bs.map vD))), a, b, c, d]) ?_ ?_ _ _ ⟨bs, _, _, _, _, rfl, h2, rfl⟩
  case refine_2 =>
    rintro d ds ρ ⟨zs, a, b, c, d, e1, h3, rfl⟩ nx hnx
    cases zs with
    | nil => cases e1
    | cons v zs =>
      cases e1
      have hv := h3 v List.mem_cons_self
      ((conv => whnf); repeat' (first | (refine gC g41 ⟨ws, v, 140, 300, 12, rfl, hw, hv, by decide, ?_⟩; conv => whnf) | (refine gC g49 ⟨ws, v, 140, 300, 12, rfl, hw, hv, by decide, ?_⟩; conv => whnf) | (refine wIf_tt ?_; conv => whnf) | (refine wIf_ff ?_; conv => whnf) | (refine wIf.mk (fun hif => (have hif := of_decide_eq_true hif; ?_)) (fun hif => (have hif := of_decide_eq_false hif; ?_)) <;> (conv => whnf)) | (refine wIf_not ?_) | (refine ⟨(by decide : (_ : Int) ≠ 0), fun w _ hw => ?_⟩; replace hw := hw (by decide); conv => whnf) | (refine ⟨(by decide : (_ : Int) ≠ 0), div_lit (by decide), fun w _ hw => ?_⟩; replace hw := hw (by decide); conv => whnf) | (refine eq_rD ?_; conv => whnf) | (refine eq_ts ?_; conv => whnf) | (refine ne_ts ?_; conv => whnf) | (refine ne_rD ?_; conv => whnf) | (refine eq_vD ?_; conv => whnf) | (refine ne_vD ?_; conv => whnf) | (refine ⟨isi_ok rfl, ?_⟩; conv => whnf) | (apply wMulS.mk; (first | exact mul_l (by decide) (by decide) | exact mul_r (by decide) (by decide) | exact mul_ok (by l_ints) (by l_ints) (by decide)); conv => whnf) | (refine ⟨⟨by decide, by decide, by decide⟩, ?_⟩; conv => whnf) | (refine ⟨⟨by decide, by decide, by omega⟩, ?_⟩; conv => whnf) | (refine ⟨small_sz (Nat.le_of_ble_eq_true rfl), ?_⟩; conv => whnf) | fail))
      all_goals first
        | exact (hif rfl).elim
        | exact hnx _ ⟨zs, _, _, _, _, rfl, fun u hu => h3 u (List.mem_cons_of_mem _ hu), rfl⟩
  rintro ρ ⟨zs, a, b, c, d, e1, h3, rfl⟩
  obtain ⟨v, hv, a1⟩ := atI_maps (f := vD) (xs := bs) (i := -1) (by have := List.length_pos_iff.mpr h0; omega) (by omega)
  ((conv => whnf); repeat' (first | (rw [a1]; conv => whnf) | (refine gC g41 ⟨[], v, 140, 300, 12, rfl, by simp, h2 v hv, by decide, ?_⟩; conv => whnf) | (refine wIf_tt ?_; conv => whnf) | (refine wIf_ff ?_; conv => whnf) | (refine wIf.mk (fun hif => (have hif := of_decide_eq_true hif; ?_)) (fun hif => (have hif := of_decide_eq_false hif; ?_)) <;> (conv => whnf)) | (refine wIf_not ?_) | (refine ⟨(by decide : (_ : Int) ≠ 0), fun w _ hw => ?_⟩; replace hw := hw (by decide); conv => whnf) | (refine ⟨(by decide : (_ : Int) ≠ 0), div_lit (by decide), fun w _ hw => ?_⟩; replace hw := hw (by decide); conv => whnf) | (refine eq_rD ?_; conv => whnf) | (refine eq_ts ?_; conv => whnf) | (refine ne_ts ?_; conv => whnf) | (refine ne_rD ?_; conv => whnf) | (refine eq_vD ?_; conv => whnf) | (refine ne_vD ?_; conv => whnf) | (refine ⟨isi_ok rfl, ?_⟩; conv => whnf) | (apply wMulS.mk; (first | exact mul_l (by decide) (by decide) | exact mul_r (by decide) (by decide) | exact mul_ok (by l_ints) (by l_ints) (by decide)); conv => whnf) | (refine ⟨⟨by decide, by decide, by decide⟩, ?_⟩; conv => whnf) | (refine ⟨⟨by decide, by decide, by omega⟩, ?_⟩; conv => whnf) | (refine ⟨small_sz (Nat.le_of_ble_eq_true rfl), ?_⟩; conv => whnf) | fail))
  exact q
end DL
end
section
namespace DL
def m_law_lowest_2 : Ss := (.cons (.set 1 (.int 0)) (.cons (.for_ (.nm 2) (.ex (.v 0)) (.cons (.set 3 (.bi .abs (.cons (.v 2) .nil))) (.cons (.whl (.cmp .Gt (.v 3) (.int 0)) (.cons (.set 4 (.bin .Mod (.v 1) (.v 3))) (.cons (.set 1 (.v 3)) (.cons (.set 3 (.v 4)) .nil)))) .nil))) (.cons (.ret (.bi .tuple1 (.cons (.lc (.bin .FloorDiv (.v 2) (.v 1)) (.nm 2) (.ex (.v 0)) .nil [("number", 2)]) .nil))) .nil)))
end DL
end
section
namespace DL
def m_law_sum_2 : Ss := (.cons (.ret (.call 80 (.cons (.lst (.cons (.bin .Add (.bin .Mult (.ix (.v 0) (.int 0)) (.ix (.v 1) (.int 1))) (.bin .Mult (.ix (.v 1) (.int 0)) (.ix (.v 0) (.int 1)))) (.cons (.bin .Mult (.ix (.v 0) (.int 1)) (.ix (.v 1) (.int 1))) .nil))) .nil))) .nil)
end DL
end
section
namespace DL
def m_law_same_2 (c : Nat) : Ss := (.cons (.ifs (.isi (.v 1) "tuple") (.cons (.ifs (.or (.not (.isi (.v 0) "tuple")) (.cmp .NotEq (.bi .len (.cons (.v 0) .nil)) (.bi .len (.cons (.v 1) .nil)))) (.cons (.ret (.bl false)) .nil) .nil) (.cons (.ret (.bi .all1 (.cons (.lc (.call c (.cons (.ix (.v 0) (.v 2)) (.cons (.ix (.v 1) (.v 2)) .nil))) (.nm 2) (.rng1 (.bi .len (.cons (.v 1) .nil))) .nil [("k", 2)]) .nil))) .nil)) .nil) (.cons (.ifs (.isN (.v 1)) (.cons (.ret (.isN (.v 0))) .nil) .nil) (.cons (.ifs (.isi (.v 1) "str") (.cons (.ret (.and (.isi (.v 0) "str") (.cmp .Eq (.v 0) (.v 1)))) .nil) .nil) (.cons (.ifs (.isi (.v 1) "bool") (.cons (.ret (.and (.isi (.v 0) "bool") (.cmp .Eq (.v 0) (.v 1)))) .nil) .nil) (.cons (.ret (.and (.isi (.v 0) "int") (.and (.not (.isi (.v 0) "bool")) (.cmp .Eq (.v 0) (.v 1))))) .nil)))))
end DL
end
section
namespace DL
def m_law_parts : Ss := (.cons (.set 3 (.call 43 (.cons (.v 0) (.cons (.int 31) (.cons (.bin .Add (.v 2) (.int 1)) .nil))))) (.cons (.set 4 (.call 43 (.cons (.v 0) (.cons (.int 32) (.cons (.v 1) .nil))))) (.cons (.set 5 (.call 43 (.cons (.v 0) (.cons (.int 33) (.cons (.v 1) .nil))))) (.cons (.set 6 (.call 43 (.cons (.v 0) (.cons (.int 34) (.cons (.v 1) .nil))))) (.cons (.set 7 (.call 43 (.cons (.v 0) (.cons (.int 35) (.cons (.bin .Add (.bin .Sub (.v 2) (.v 3)) (.int 1)) .nil))))) (.cons (.set 8 (.lc (.int 0) (.nm 9) (.rng1 (.v 1)) .nil [("k", 9)])) (.cons (.sset 8 (.v 4) (.bin .Add (.ix (.v 8) (.v 4)) (.v 3))) (.cons (.sset 8 (.v 5) (.bin .Add (.ix (.v 8) (.v 5)) (.v 7))) (.cons (.sset 8 (.v 6) (.bin .Sub (.bin .Sub (.bin .Add (.ix (.v 8) (.v 6)) (.v 2)) (.v 3)) (.v 7))) (.cons (.frz 8) (.cons (.frz 8) (.cons (.ret (.v 8)) .nil))))))))))))
end DL
end
section
namespace DL
def m_law_course : Ss := (.cons (.set 2 (.lst .nil)) (.cons (.for_ (.nm 3) (.rng1 (.bi .len (.cons (.v 0) .nil))) (.cons (.set 4 (.bin .Add (.int 1) (.call 43 (.cons (.v 1) (.cons (.bin .Add (.int 40) (.v 3)) (.cons (.ix (.lst (.cons (.int 1) (.cons (.int 6) (.cons (.int 60) .nil)))) (.call 43 (.cons (.v 1) (.cons (.int 39) (.cons (.int 3) .nil))))) .nil)))))) (.cons (.set 5 (.call 88 (.cons (.bin .Add (.v 1) (.bin .Mult (.int 7) (.v 3))) (.cons (.bi .len (.cons (.ix (.ix (.v 0) (.v 3)) (.int 0)) .nil)) (.cons (.v 4) .nil))))) (.cons (.ifs (.cmp .Eq (.call 43 (.cons (.bin .Add (.v 1) (.v 3)) (.cons (.int 38) (.cons (.int 4) .nil)))) (.int 0)) (.cons (.set 5 (.lc (.bin .Add (.int 1) (.call 43 (.cons (.bin .Add (.v 1) (.v 3)) (.cons (.bin .Add (.int 120) (.v 6)) (.cons (.int 5) .nil))))) (.nm 6) (.rng1 (.bi .len (.cons (.ix (.ix (.v 0) (.v 3)) (.int 0)) .nil))) .nil [("j", 6)])) (.cons (.frz 5) (.cons (.set 4 (.bi .sum1 (.cons (.v 5) .nil))) .nil))) .nil) (.cons (.app 2 (.bi .tuple1 (.cons (.lc (.tup (.cons (.v 6) (.cons (.call 80 (.cons (.lst (.cons (.ix (.v 5) (.v 6)) (.cons (.v 4) .nil))) .nil)) .nil))) (.nm 6) (.rng1 (.bi .len (.cons (.v 5) .nil))) (.cons (.cmp .Gt (.ix (.v 5) (.v 6)) (.int 0)) .nil) [("j", 6)]) .nil))) .nil))))) (.cons (.frz 2) (.cons (.ret (.bi .tuple1 (.cons (.v 2) .nil))) .nil))))
end DL
end
section
namespace DL
def m_law_add : Ss := (.cons (.set 3 (.ix (.v 2) (.int 0))) (.cons (.set 4 (.bin .Add (.bin .Mult (.ix (.v 0) (.int 0)) (.ix (.v 2) (.int 1))) (.bin .Mult (.bin .Mult (.ix (.v 1) (.int 0)) (.v 3)) (.ix (.v 0) (.int 2))))) (.cons (.set 5 (.bin .Add (.bin .Mult (.ix (.v 0) (.int 1)) (.ix (.v 2) (.int 1))) (.bin .Mult (.bin .Mult (.ix (.v 1) (.int 1)) (.v 3)) (.ix (.v 0) (.int 2))))) (.cons (.ret (.call 80 (.cons (.lst (.cons (.v 4) (.cons (.v 5) (.cons (.bin .Mult (.ix (.v 0) (.int 2)) (.ix (.v 2) (.int 1))) .nil)))) .nil))) .nil))))
end DL
end
section
namespace DL
def m_law_end_2 : Ss := (.cons (.set 2 (.tup (.cons (.int 0) (.cons (.int 0) (.cons (.int 1) .nil))))) (.cons (.for_ (.nm 3) (.rng1 (.bi .len (.cons (.v 1) .nil))) (.cons (.set 4 (.tup (.cons (.int 0) (.cons (.int 1) .nil)))) (.cons (.for_ (.tp [5, 6]) (.ex (.ix (.v 1) (.v 3))) (.cons (.set 2 (.call 90 (.cons (.v 2) (.cons (.ix (.ix (.ix (.v 0) (.v 3)) (.int 0)) (.v 5)) (.cons (.v 6) .nil))))) (.cons (.set 4 (.call 81 (.cons (.v 4) (.cons (.v 6) .nil)))) .nil))) (.cons (.set 2 (.call 90 (.cons (.v 2) (.cons (.ix (.ix (.v 0) (.v 3)) (.int 1)) (.cons (.v 4) .nil))))) .nil)))) (.cons (.ret (.v 2)) .nil)))
end DL
end
section
namespace DL
def m_law_free_place : Ss := (.cons (.set 2 (.bin .Add (.bin .Mult (.int 80) (.bin .Add (.v 1) (.int 1))) (.int 1))) (.cons (.set 3 (.bin .Sub (.bin .Mod (.v 0) (.v 2)) (.bin .FloorDiv (.v 2) (.int 2)))) (.cons (.set 4 (.bin .Sub (.bin .Mod (.bin .FloorDiv (.v 0) (.v 2)) (.v 2)) (.bin .FloorDiv (.v 2) (.int 2)))) (.cons (.ret (.call 80 (.cons (.lst (.cons (.v 3) (.cons (.v 4) (.cons (.bin .Add (.int 1) (.bin .Mod (.bin .FloorDiv (.bin .FloorDiv (.v 0) (.v 2)) (.v 2)) (.int 60))) .nil)))) .nil))) .nil))))
end DL
end
section
namespace DL
def m_law_goal : Ss := (.cons (.ifs (.cmp .Eq (.bin .Mod (.v 1) (.int 2)) (.int 1)) (.cons (.ret (.call 92 (.cons (.bin .FloorDiv (.v 1) (.int 2)) (.cons (.v 2) .nil)))) .nil) .nil) (.cons (.set 3 (.call 91 (.cons (.v 0) (.cons (.call 89 (.cons (.v 0) (.cons (.v 1) .nil))) .nil)))) (.cons (.set 4 (.call 43 (.cons (.v 1) (.cons (.int 61) (.cons (.int 6) .nil))))) (.cons (.ifs (.cmp .Lt (.v 4) (.int 3)) (.cons (.ret (.v 3)) .nil) .nil) (.cons (.set 5 (.ix (.lst (.cons (.int 1) (.cons (.bin .Add (.int 1) (.v 2)) (.cons (.bin .Mult (.int 40) (.bin .Add (.int 1) (.v 2))) .nil)))) (.bin .Sub (.v 4) (.int 3)))) (.cons (.set 6 (.tup (.cons (.bin .Sub (.call 43 (.cons (.v 1) (.cons (.int 62) (.cons (.bin .Add (.bin .Mult (.int 2) (.v 5)) (.int 1)) .nil)))) (.v 5)) (.cons (.bin .Sub (.call 43 (.cons (.v 1) (.cons (.int 63) (.cons (.bin .Add (.bin .Mult (.int 2) (.v 5)) (.int 1)) .nil)))) (.v 5)) .nil)))) (.cons (.ret (.call 90 (.cons (.v 3) (.cons (.v 6) (.cons (.call 80 (.cons (.lst (.cons (.int 1) (.cons (.bin .Add (.int 1) (.call 43 (.cons (.v 1) (.cons (.int 64) (.cons (.int 3) .nil))))) .nil))) .nil)) .nil))))) .nil)))))))
end DL
end
section
namespace DL
def m_law_size : Ss := (.cons (.ifs (.cmp .Eq (.bin .Mod (.call 42 (.cons (.v 0) (.cons (.int 0) .nil))) (.int 2)) (.int 1)) (.cons (.ret (.ix (.lst (.cons (.int 3) (.cons (.int 12) (.cons (.bin .Pow (.int 10) (.int 9)) .nil)))) (.bin .Mod (.bin .FloorDiv (.ix (.v 0) (.int 0)) (.int 2)) (.int 3)))) .nil) .nil) (.cons (.ret (.ix (.lst (.cons (.int 3) (.cons (.int 3) (.cons (.int 12) (.cons (.bin .Pow (.int 10) (.int 9)) .nil))))) (.call 43 (.cons (.call 42 (.cons (.v 0) (.cons (.int 0) .nil))) (.cons (.int 1) (.cons (.int 4) .nil)))))) .nil))
end DL
end
section
namespace DL
def m_law_before : Ss := (.cons (.ret (.cmp .Lt (.bin .Mult (.ix (.v 0) (.int 0)) (.ix (.v 1) (.int 1))) (.bin .Mult (.ix (.v 1) (.int 0)) (.ix (.v 0) (.int 1))))) .nil)
end DL
end
section
namespace DL
def m_law_bearings : Ss := (.cons (.set 1 (.lst .nil)) (.cons (.for_ (.nm 2) (.rng1 (.call 43 (.cons (.v 0) (.cons (.int 73) (.cons (.int 5) .nil))))) (.cons (.set 3 (.tup (.cons (.bin .Sub (.call 43 (.cons (.v 0) (.cons (.bin .Add (.int 74) (.bin .Mult (.int 2) (.v 2))) (.cons (.int 9) .nil)))) (.int 4)) (.cons (.bin .Sub (.call 43 (.cons (.v 0) (.cons (.bin .Add (.int 75) (.bin .Mult (.int 2) (.v 2))) (.cons (.int 9) .nil)))) (.int 4)) .nil)))) (.cons (.ifs (.cmp .NotEq (.v 3) (.tup (.cons (.int 0) (.cons (.int 0) .nil)))) (.cons (.app 1 (.v 3)) .nil) .nil) .nil))) (.cons (.frz 1) (.cons (.ret (.bi .tuple1 (.cons (.v 1) .nil))) .nil))))
end DL
end
section
set_option maxRecDepth 100000
set_option maxHeartbeats 4000000
set_option exponentiation.threshold 100000
namespace DL
open PySem L2
local macro_rules | `(tactic| l_ints) => `(tactic| first | (assumption) | (apply Bd.neg; l_ints) | (apply Bd.mul <;> l_ints) | (exact bd40 (by omega) (by omega)) | (apply Bd.add <;> l_ints) | (apply Bd.sub <;> l_ints) | (exact bd130 (by omega) (by omega)) | (exact bd210 (by omega) (by omega)) | (exact bd_self _) | fail)
theorem rng_drop {n i : Nat} (h : i < n) : (rngD 0 n).drop i = (.int (i : Int)) :: (rngD 0 n).drop (i + 1) := by
  rw [List.drop_eq_getElem_cons (by rw [rng_len]; exact h)]
  congr 1
  unfold rngD
  simp
theorem lc_rng {st : D → En → (En → Prop) → Prop} {tt : En → (Bool → Prop) → Prop} {el : En → (R → Prop) → Prop} {ρ : En} {Q : R → Prop} (P : Nat → List D → Prop) (n : Nat) (h0 : ∀ acc, P n acc → Q (.l acc true))
    (h1 : ∀ i acc, i < n → P i acc → ∀ k : List D → Prop, (∀ acc', P (i + 1) acc' → k acc') → st (.int (i : Int)) ρ fun ρ2 => tt ρ2 fun b => wIf b (el ρ2 fun r => frzP r fun y => k (acc ++ [y])) (k acc)) (h : P 0 []) : lcLoop st tt el ρ (rngD 0 n) [] Q := by
  refine lc_ind (fun ds acc => ∃ i, i ≤ n ∧ ds = (rngD 0 n).drop i ∧ P i acc) ?_ ?_ _ _ ⟨0, by omega, rfl, h⟩
  · rintro acc ⟨i, hi, e, p⟩
    have : n ≤ i := by
      have := congrArg List.length e
      rw [List.length_drop, rng_len] at this
      simp at this
      omega
    have : i = n := by omega
    subst this
    exact h0 acc p
  · rintro d ds acc ⟨i, hi, e, p⟩ k hk
    have hlt : i < n := by
      have := congrArg List.length e
      rw [List.length_drop, rng_len] at this
      simp at this
      omega
    rw [rng_drop hlt] at e
    cases e
    exact h1 i acc hlt p k fun acc' p' => hk acc' ⟨i + 1, by omega, rfl, p'⟩
def gl (xs : List Int) : Nat := xs.foldl (fun (a : Nat) z => Int.gcd (a : Int) z) 0
def sp_law_lowest_2 : DSp := fun ds Q X => ∃ xs : List Int, ds = [.list (xs.map .int)] ∧ gl xs ≠ 0 ∧ Bd 8999 (gl xs) ∧ Q (.d (.tuple (xs.map fun x => .int (x / gl xs))))
theorem p_law_lowest_2 {G : Nat → DSp} : FnW G 5 1 m_law_lowest_2 sp_law_lowest_2 := by
  intro ds Q X ⟨xs, e, h1, h2, q⟩
  subst e
  refine ⟨rfl, ?_⟩
  ((conv => whnf); repeat' (first | (refine wIf_tt ?_; conv => whnf) | (refine wIf_ff ?_; conv => whnf) | (refine wIf.mk (fun hif => (have hif := of_decide_eq_true hif; ?_)) (fun hif => (have hif := of_decide_eq_false hif; ?_)) <;> (conv => whnf)) | (refine wIf_not ?_) | (refine ⟨(by decide : (_ : Int) ≠ 0), fun w _ hw => ?_⟩; replace hw := hw (by decide); conv => whnf) | (refine ⟨(by decide : (_ : Int) ≠ 0), div_lit (by decide), fun w _ hw => ?_⟩; replace hw := hw (by decide); conv => whnf) | (refine eq_rD ?_; conv => whnf) | (refine eq_ts ?_; conv => whnf) | (refine ne_ts ?_; conv => whnf) | (refine ne_rD ?_; conv => whnf) | (refine eq_vD ?_; conv => whnf) | (refine ne_vD ?_; conv => whnf) | (refine ⟨isi_ok rfl, ?_⟩; conv => whnf) | (apply wMulS.mk; (first | exact mul_l (by decide) (by decide) | exact mul_r (by decide) (by decide) | exact mul_ok (by l_ints) (by l_ints) (by decide)); conv => whnf) | (refine ⟨⟨by decide, by decide, by decide⟩, ?_⟩; conv => whnf) | (refine ⟨⟨by decide, by decide, by omega⟩, ?_⟩; conv => whnf) | (refine ⟨small_sz (Nat.le_of_ble_eq_true rfl), ?_⟩; conv => whnf) | fail))
  refine ⟨rfl, ?_⟩
  refine forLoop_ind (fun ds ρ => ∃ (zs : List Int) (f : Nat) (u v w : Option R), ds = zs.map .int ∧ ρ = [some (.d (.list (xs.map .int))), some (.d (.int f)), u, v, w] ∧ zs.foldl (fun (a : Nat) z => Int.gcd (a : Int) z) f = gl xs) ?_ ?_ _ _ ⟨xs, 0, none, none, none, rfl, rfl, rfl⟩
  · rintro ρ ⟨zs, f, u, v, w, e1, rfl, e2⟩
    have : zs = [] := by simpa using e1.symm
    subst this
    have e2 : f = gl xs := e2
    subst e2
    conv => whnf
    refine lc_map1 (t := .nm 2) PyData.int (fun x => .int (x / gl xs)) xs (fun x hx k hk => ?_) ?_
    · conv => whnf
      refine ⟨by omega, div_ok h2 (by decide), fun w _ hw => ?_⟩
      conv => whnf
      rw [hw (by omega)]
      exact hk
    conv => whnf
    exact q
  · rintro d ds ρ ⟨zs, f, u, v, w, e1, rfl, e2⟩ nx hnx
    cases zs with
    | nil => cases e1
    | cons z zs =>
      cases e1
      conv => whnf
      refine ⟨fun n ρ => ∃ (a c : Nat) (w : Option R), ρ = [some (.d (.list (xs.map .int))), some (.d (.int a)), some (.d (.int z)), some (.d (.int c)), w] ∧ n = c ∧ Nat.gcd a c = Int.gcd (f : Int) z, ⟨_, f, z.natAbs, w, ?_, rfl, ?_⟩, ?_⟩
      · rw [abs_if] <;> rfl
      · simp [Int.gcd]
      rintro n ρ ⟨a, c, w, rfl, rfl, hg⟩
      conv => whnf
      refine wIf.mk (fun h => ?_) (fun h => ?_)
      · have h : (0 : Int) < n := of_decide_eq_true h
        conv => whnf
        refine ⟨by omega, fun w _ hw => ?_⟩
        have hw := hw h
        have e3 : w = ((a % n : Nat) : Int) := by rw [hw]; simp
        subst e3
        conv => whnf
        have hl := Nat.mod_lt a (show 0 < n by omega)
        refine ⟨_, hl, n, a % n, _, rfl, rfl, ?_⟩
        rw [← hg, Nat.gcd_comm n, ← Nat.gcd_rec, Nat.gcd_comm]
      · have h : ¬ (0 : Int) < n := of_decide_eq_false h
        have h0 : n = 0 := by omega
        subst h0
        refine hnx _ ⟨zs, a, _, _, _, rfl, rfl, ?_⟩
        rw [← e2]
        simp only [List.foldl_cons]
        rw [← hg]
        simp
theorem gl2 (a b : Int) : gl [a, b] = Int.gcd a b := by simp [gl, Int.gcd]
theorem gl3 (x y b : Int) : gl [x, y, b] = gcd3 x y b := by simp [gl, gcd3, Int.gcd]
theorem low2 {G : Nat → DSp} (g80 : G 80 = sp_law_lowest_2) {a b : Int} {W : R → Prop} {X : Nat → Prop} (hb : 0 < b) (bb : Bd 8999 b) (h : W (.d (rD (Rat.divInt a b)))) : G 80 [.list [.int a, .int b]] W X := by
  obtain ⟨l1, l2⟩ := low_num (a := a) (b := b) (by omega) (Int.gcd a b) (by rw [if_neg (by omega)])
  have hp : 0 < Int.gcd a b := Int.gcd_pos_of_ne_zero_right a (show b ≠ 0 by omega)
  have hbd := gcd_bd bb (a := a) (b := b) (by omega)
  refine gC g80 ⟨[a, b], rfl, by rw [gl2]; omega, by rw [gl2]; exact hbd, ?_⟩
  show W (.d (.tuple [.int (a / gl [a, b]), .int (b / gl [a, b])]))
  rw [gl2, ← Int.fdiv_eq_ediv_of_nonneg a (by omega), ← Int.fdiv_eq_ediv_of_nonneg b (by omega), l1, l2]
  exact h
theorem low3 {G : Nat → DSp} (g80 : G 80 = sp_law_lowest_2) {x y b : Int} {W : R → Prop} {X : Nat → Prop} (hb : 0 < b) (bb : Bd 8999 b) (h : W (.d (PD (Rat.divInt x b) (Rat.divInt y b)))) : G 80 [.list [.int x, .int y, .int b]] W X := by
  have hp := gcd3_pos (x := x) (y := y) (b := b) (by omega)
  have hbd : Bd 8999 (gcd3 x y b) := gcd_bd bb (a := _) (b := b) (by omega)
  refine gC g80 ⟨[x, y, b], rfl, by rw [gl3]; omega, by rw [gl3]; exact hbd, ?_⟩
  show W (.d (.tuple [.int (x / gl [x, y, b]), .int (y / gl [x, y, b]), .int (b / gl [x, y, b])]))
  rw [gl3]
  unfold PD at h
  rw [← plow_eq hb] at h
  exact h
def sp_law_same_2 (n : Nat) : DSp := sp_law_same n
theorem no_law_same_2 : ∀ ds Q X, ¬ sp_law_same_2 0 ds Q X := no_law_same
theorem p_law_same_2 {G : Nat → DSp} {c n : Nat} (g : G c = sp_law_same_2 n) : FnW G 3 2 (m_law_same_2 c) (sp_law_same_2 (n + 1)) := by
  intro ds Q X ⟨d, e, h, q⟩
  subst e
  refine ⟨rfl, ?_⟩
  have tt : ∀ b : Bool, b = true → Q (.d (.bool b)) := fun b h => by rw [h]; exact q
  cases d with
  | int i =>
    ((conv => whnf); repeat' (first | (refine wIf_tt ?_; conv => whnf) | (refine wIf_ff ?_; conv => whnf) | (refine wIf.mk (fun hif => (have hif := of_decide_eq_true hif; ?_)) (fun hif => (have hif := of_decide_eq_false hif; ?_)) <;> (conv => whnf)) | (refine wIf_not ?_) | (refine ⟨(by decide : (_ : Int) ≠ 0), fun w _ hw => ?_⟩; replace hw := hw (by decide); conv => whnf) | (refine ⟨(by decide : (_ : Int) ≠ 0), div_lit (by decide), fun w _ hw => ?_⟩; replace hw := hw (by decide); conv => whnf) | (refine eq_rD ?_; conv => whnf) | (refine eq_ts ?_; conv => whnf) | (refine ne_ts ?_; conv => whnf) | (refine ne_rD ?_; conv => whnf) | (refine eq_vD ?_; conv => whnf) | (refine ne_vD ?_; conv => whnf) | (refine ⟨isi_ok rfl, ?_⟩; conv => whnf) | (apply wMulS.mk; (first | exact mul_l (by decide) (by decide) | exact mul_r (by decide) (by decide) | exact mul_ok (by l_ints) (by l_ints) (by decide)); conv => whnf) | (refine ⟨⟨by decide, by decide, by decide⟩, ?_⟩; conv => whnf) | (refine ⟨⟨by decide, by decide, by omega⟩, ?_⟩; conv => whnf) | (refine ⟨small_sz (Nat.le_of_ble_eq_true rfl), ?_⟩; conv => whnf) | fail))
    exact tt _ (decide_eq_true rfl)
  | none =>
    ((conv => whnf); repeat' (first | (refine wIf_tt ?_; conv => whnf) | (refine wIf_ff ?_; conv => whnf) | (refine wIf.mk (fun hif => (have hif := of_decide_eq_true hif; ?_)) (fun hif => (have hif := of_decide_eq_false hif; ?_)) <;> (conv => whnf)) | (refine wIf_not ?_) | (refine ⟨(by decide : (_ : Int) ≠ 0), fun w _ hw => ?_⟩; replace hw := hw (by decide); conv => whnf) | (refine ⟨(by decide : (_ : Int) ≠ 0), div_lit (by decide), fun w _ hw => ?_⟩; replace hw := hw (by decide); conv => whnf) | (refine eq_rD ?_; conv => whnf) | (refine eq_ts ?_; conv => whnf) | (refine ne_ts ?_; conv => whnf) | (refine ne_rD ?_; conv => whnf) | (refine eq_vD ?_; conv => whnf) | (refine ne_vD ?_; conv => whnf) | (refine ⟨isi_ok rfl, ?_⟩; conv => whnf) | (apply wMulS.mk; (first | exact mul_l (by decide) (by decide) | exact mul_r (by decide) (by decide) | exact mul_ok (by l_ints) (by l_ints) (by decide)); conv => whnf) | (refine ⟨⟨by decide, by decide, by decide⟩, ?_⟩; conv => whnf) | (refine ⟨⟨by decide, by decide, by omega⟩, ?_⟩; conv => whnf) | (refine ⟨small_sz (Nat.le_of_ble_eq_true rfl), ?_⟩; conv => whnf) | fail))
    exact q
  | bool b =>
    ((conv => whnf); repeat' (first | (refine wIf_tt ?_; conv => whnf) | (refine wIf_ff ?_; conv => whnf) | (refine wIf.mk (fun hif => (have hif := of_decide_eq_true hif; ?_)) (fun hif => (have hif := of_decide_eq_false hif; ?_)) <;> (conv => whnf)) | (refine wIf_not ?_) | (refine ⟨(by decide : (_ : Int) ≠ 0), fun w _ hw => ?_⟩; replace hw := hw (by decide); conv => whnf) | (refine ⟨(by decide : (_ : Int) ≠ 0), div_lit (by decide), fun w _ hw => ?_⟩; replace hw := hw (by decide); conv => whnf) | (refine eq_rD ?_; conv => whnf) | (refine eq_ts ?_; conv => whnf) | (refine ne_ts ?_; conv => whnf) | (refine ne_rD ?_; conv => whnf) | (refine eq_vD ?_; conv => whnf) | (refine ne_vD ?_; conv => whnf) | (refine ⟨isi_ok rfl, ?_⟩; conv => whnf) | (apply wMulS.mk; (first | exact mul_l (by decide) (by decide) | exact mul_r (by decide) (by decide) | exact mul_ok (by l_ints) (by l_ints) (by decide)); conv => whnf) | (refine ⟨⟨by decide, by decide, by decide⟩, ?_⟩; conv => whnf) | (refine ⟨⟨by decide, by decide, by omega⟩, ?_⟩; conv => whnf) | (refine ⟨small_sz (Nat.le_of_ble_eq_true rfl), ?_⟩; conv => whnf) | fail))
    exact tt _ (decide_eq_true rfl)
  | str s =>
    ((conv => whnf); repeat' (first | (refine wIf_tt ?_; conv => whnf) | (refine wIf_ff ?_; conv => whnf) | (refine wIf.mk (fun hif => (have hif := of_decide_eq_true hif; ?_)) (fun hif => (have hif := of_decide_eq_false hif; ?_)) <;> (conv => whnf)) | (refine wIf_not ?_) | (refine ⟨(by decide : (_ : Int) ≠ 0), fun w _ hw => ?_⟩; replace hw := hw (by decide); conv => whnf) | (refine ⟨(by decide : (_ : Int) ≠ 0), div_lit (by decide), fun w _ hw => ?_⟩; replace hw := hw (by decide); conv => whnf) | (refine eq_rD ?_; conv => whnf) | (refine eq_ts ?_; conv => whnf) | (refine ne_ts ?_; conv => whnf) | (refine ne_rD ?_; conv => whnf) | (refine eq_vD ?_; conv => whnf) | (refine ne_vD ?_; conv => whnf) | (refine ⟨isi_ok rfl, ?_⟩; conv => whnf) | (apply wMulS.mk; (first | exact mul_l (by decide) (by decide) | exact mul_r (by decide) (by decide) | exact mul_ok (by l_ints) (by l_ints) (by decide)); conv => whnf) | (refine ⟨⟨by decide, by decide, by decide⟩, ?_⟩; conv => whnf) | (refine ⟨⟨by decide, by decide, by omega⟩, ?_⟩; conv => whnf) | (refine ⟨small_sz (Nat.le_of_ble_eq_true rfl), ?_⟩; conv => whnf) | fail))
    exact tt _ (decide_eq_true rfl)
  | tuple es =>
    obtain ⟨h0, h1⟩ := h
    ((conv => whnf); repeat' (first | (refine wIf_tt ?_; conv => whnf) | (refine wIf_ff ?_; conv => whnf) | (refine wIf.mk (fun hif => (have hif := of_decide_eq_true hif; ?_)) (fun hif => (have hif := of_decide_eq_false hif; ?_)) <;> (conv => whnf)) | (refine wIf_not ?_) | (refine ⟨(by decide : (_ : Int) ≠ 0), fun w _ hw => ?_⟩; replace hw := hw (by decide); conv => whnf) | (refine ⟨(by decide : (_ : Int) ≠ 0), div_lit (by decide), fun w _ hw => ?_⟩; replace hw := hw (by decide); conv => whnf) | (refine eq_rD ?_; conv => whnf) | (refine eq_ts ?_; conv => whnf) | (refine ne_ts ?_; conv => whnf) | (refine ne_rD ?_; conv => whnf) | (refine eq_vD ?_; conv => whnf) | (refine ne_vD ?_; conv => whnf) | (refine ⟨isi_ok rfl, ?_⟩; conv => whnf) | (apply wMulS.mk; (first | exact mul_l (by decide) (by decide) | exact mul_r (by decide) (by decide) | exact mul_ok (by l_ints) (by l_ints) (by decide)); conv => whnf) | (refine ⟨⟨by decide, by decide, by decide⟩, ?_⟩; conv => whnf) | (refine ⟨⟨by decide, by decide, by omega⟩, ?_⟩; conv => whnf) | (refine ⟨small_sz (Nat.le_of_ble_eq_true rfl), ?_⟩; conv => whnf) | fail))
    case refine_2 => exact (hif rfl).elim
    refine ⟨Int.ofNat_le.mpr (small_sz h0), by omega, ?_⟩
    conv => whnf
    refine lc_rng (fun i acc => ∃ bs : List Bool, acc = bs.map .bool ∧ ∀ b ∈ bs, b = true) es.length ?_ ?_ ⟨[], rfl, by simp⟩
    · rintro acc ⟨bs, rfl, h5⟩
      conv => whnf
      refine ⟨bs, rfl, ?_⟩
      conv => whnf
      exact tt _ (List.all_eq_true.mpr h5)
    · rintro i acc hi ⟨bs, rfl, h5⟩ k hk
      obtain ⟨d, a1, hd⟩ := atI_mem (ds := es) (i := (i : Int)) (by omega) (by omega)
      ((conv => whnf); repeat' (first | (rw [a1]; conv => whnf) | (refine gC g ⟨d, rfl, h1 d hd, ?_⟩; conv => whnf) | (refine wIf_tt ?_; conv => whnf) | (refine wIf_ff ?_; conv => whnf) | (refine wIf.mk (fun hif => (have hif := of_decide_eq_true hif; ?_)) (fun hif => (have hif := of_decide_eq_false hif; ?_)) <;> (conv => whnf)) | (refine wIf_not ?_) | (refine ⟨(by decide : (_ : Int) ≠ 0), fun w _ hw => ?_⟩; replace hw := hw (by decide); conv => whnf) | (refine ⟨(by decide : (_ : Int) ≠ 0), div_lit (by decide), fun w _ hw => ?_⟩; replace hw := hw (by decide); conv => whnf) | (refine eq_rD ?_; conv => whnf) | (refine eq_ts ?_; conv => whnf) | (refine ne_ts ?_; conv => whnf) | (refine ne_rD ?_; conv => whnf) | (refine eq_vD ?_; conv => whnf) | (refine ne_vD ?_; conv => whnf) | (refine ⟨isi_ok rfl, ?_⟩; conv => whnf) | (apply wMulS.mk; (first | exact mul_l (by decide) (by decide) | exact mul_r (by decide) (by decide) | exact mul_ok (by l_ints) (by l_ints) (by decide)); conv => whnf) | (refine ⟨⟨by decide, by decide, by decide⟩, ?_⟩; conv => whnf) | (refine ⟨⟨by decide, by decide, by omega⟩, ?_⟩; conv => whnf) | (refine ⟨small_sz (Nat.le_of_ble_eq_true rfl), ?_⟩; conv => whnf) | fail))
      exact hk _ ⟨bs ++ [true], by rw [List.map_append]; rfl, fun b hb => by
        rcases List.mem_append.mp hb with h | h
        · exact h5 b h
        · exact List.mem_singleton.mp h⟩
  | _ => exact h.elim
def sp_law_before : DSp := fun ds Q X => ∃ a b c d : Int, ds = [.tuple [.int a, .int b], .tuple [.int c, .int d]] ∧ (∃ k, k ≤ 400000 ∧ Bd k a ∧ Bd k b ∧ Bd k c ∧ Bd k d) ∧ Q (.d (.bool (decide (a * d < c * b))))
theorem p_law_before {G : Nat → DSp} : FnW G 2 2 m_law_before sp_law_before := by
  intro ds Q X ⟨a, b, c, d, e, ⟨k, h0, h1, h2, h3, h4⟩, q⟩
  subst e
  refine ⟨rfl, ?_⟩
  conv => whnf
  refine ⟨mul_ok h1 h4 (by omega), ?_⟩
  conv => whnf
  refine ⟨mul_ok h3 h2 (by omega), ?_⟩
  conv => whnf
  exact q
structure PlB (M k : Nat) (e n : Rat) : Prop where
  z : Bd k (plc e n).2.2
  x : (plc e n).1.natAbs ≤ M * (plc e n).2.2.natAbs
  y : (plc e n).2.1.natAbs ≤ M * (plc e n).2.2.natAbs
structure ShB (T j : Nat) (r : Rat) : Prop where
  d : Bd j r.den
  n : r.num.natAbs ≤ T * r.den
theorem le_scale {x b u w k : Int} {M : Nat} (hx : x = k * u) (hb : b = k * w) (hk : 0 < k) (h : x.natAbs ≤ M * b.natAbs) : u.natAbs ≤ M * w.natAbs := by
  rw [hx, hb, Int.natAbs_mul, Int.natAbs_mul] at h
  have hk2 : 0 < k.natAbs := by omega
  have h2 : k.natAbs * u.natAbs ≤ k.natAbs * (M * w.natAbs) := by
    rw [Nat.mul_left_comm]; exact h
  exact Nat.le_of_mul_le_mul_left h2 hk2
theorem PlB.low {M k : Nat} {x y b : Int} (hb : 0 < b) (h1 : x.natAbs ≤ M * b.natAbs) (h2 : y.natAbs ≤ M * b.natAbs) (h3 : Bd k b) : PlB M k (Rat.divInt x b) (Rat.divInt y b) := by
  have g := gcd3_pos (x := x) (y := y) (show b ≠ 0 by omega)
  obtain ⟨u, hu⟩ := gcd3_x (x := x) (y := y) (b := b)
  obtain ⟨v, hv⟩ := gcd3_y (x := x) (y := y) (b := b)
  obtain ⟨w, hw⟩ := gcd3_b (x := x) (y := y) (b := b)
  have k0 : (gcd3 x y b : Int) ≠ 0 := by omega
  have e1 : x / (gcd3 x y b : Int) = u := by conv => lhs; lhs; rw [hu]
                                             exact Int.mul_ediv_cancel_left _ k0
  have e2 : y / (gcd3 x y b : Int) = v := by conv => lhs; lhs; rw [hv]
                                             exact Int.mul_ediv_cancel_left _ k0
  have e3 : b / (gcd3 x y b : Int) = w := by conv => lhs; lhs; rw [hw]
                                             exact Int.mul_ediv_cancel_left _ k0
  have e := plow_eq (x := x) (y := y) hb
  have e4 : plow x y b = (u, v, w) := by unfold plow; rw [e1, e2, e3]
  have kp : (0 : Int) < (gcd3 x y b : Int) := by omega
  refine ⟨?_, ?_, ?_⟩
  · rw [← e]; exact ediv_bd _ h3
  · rw [← e, e4]; exact le_scale hu hw kp h1
  · rw [← e, e4]; exact le_scale hv hw kp h2
theorem ShB.low {T j : Nat} {a b : Int} (hb : 0 < b) (h1 : a.natAbs ≤ T * b.natAbs) (h2 : Bd j b) : ShB T j (Rat.divInt a b) := by
  have h := (Rat.divInt_eq_divInt_iff (den_ne (Rat.divInt a b)) (show b ≠ 0 by omega)).mp (Rat.num_divInt_den (Rat.divInt a b))
  have hd := (Rat.divInt a b).den_pos
  refine ⟨h2.le (den_le (by omega)), ?_⟩
  generalize Rat.divInt a b = r at *
  have h3 : r.num.natAbs * b.natAbs = a.natAbs * r.den := by
    have := congrArg Int.natAbs h
    rw [Int.natAbs_mul, Int.natAbs_mul] at this
    simpa using this
  have hb2 : 0 < b.natAbs := by omega
  refine Nat.le_of_mul_le_mul_right (c := b.natAbs) ?_ hb2
  rw [h3, Nat.mul_right_comm]
  exact Nat.mul_le_mul_right _ h1
theorem PlB.bd {M k m : Nat} {e n : Rat} (h : PlB M k e n) (hM : M < 2 ^ m) : PB (m + k) e n := by
  have g : ∀ x : Int, x.natAbs ≤ M * (plc e n).2.2.natAbs → Bd (m + k) x := fun x hx => by
    refine Nat.lt_of_le_of_lt hx ?_
    rw [Nat.pow_add]
    exact Nat.lt_of_le_of_lt (Nat.mul_le_mul_right _ (Nat.le_of_lt hM)) ((Nat.mul_lt_mul_left (Nat.pow_pos (by decide))).mpr h.z)
  exact ⟨g _ h.x, g _ h.y, h.z.mono (by omega)⟩
theorem ShB.rb {T j m : Nat} {r : Rat} (h : ShB T j r) (hT : T < 2 ^ m) : RB (m + j) r := by
  refine ⟨?_, h.d.mono (by omega)⟩
  refine Nat.lt_of_le_of_lt h.n ?_
  rw [Nat.pow_add]
  exact Nat.lt_of_le_of_lt (Nat.mul_le_mul_right _ (Nat.le_of_lt hT)) ((Nat.mul_lt_mul_left (Nat.pow_pos (by decide))).mpr h.d)
theorem add_le {M T V : Nat} {x z d v t : Int} (hx : x.natAbs ≤ M * z.natAbs) (hv : v.natAbs ≤ V) (ht : t.natAbs ≤ T * d.natAbs) : (x * d + v * t * z).natAbs ≤ (M + V * T) * (z * d).natAbs := by
  refine Nat.le_trans (Int.natAbs_add_le _ _) ?_
  rw [Int.natAbs_mul, Int.natAbs_mul, Int.natAbs_mul, Int.natAbs_mul, Nat.add_mul]
  refine Nat.add_le_add ?_ ?_
  · rw [← Nat.mul_assoc]; exact Nat.mul_le_mul_right _ hx
  · have := Nat.mul_le_mul (Nat.mul_le_mul hv ht) (Nat.le_refl z.natAbs)
    refine Nat.le_trans this (Nat.le_of_eq ?_)
    grind
def sp_law_add : DSp := fun ds Q X => ∃ (e n : Rat) (v : Vec) (r : Rat) (M k T j : Nat), ds = [PD e n, vD v, rD r] ∧ PlB M k e n ∧ VB 140 v ∧ ShB T j r ∧ M < 2 ^ 1000 ∧ T < 2 ^ 100 ∧ k + j ≤ 8000 ∧ ∀ e' n', PlB (M + 2 ^ 140 * T) (k + j) e' n' → Q (.d (PD e' n'))
theorem p_law_add {G : Nat → DSp} (g80 : G 80 = sp_law_lowest_2) : FnW G 6 3 m_law_add sp_law_add := by
  intro ds Q X ⟨e, n, v, r, M, k, T, j, e0, hp, hv, hr, hM, hT, hk, q⟩
  subst e0
  refine ⟨rfl, ?_⟩
  obtain ⟨b1, b2, b3⟩ := hp.bd hM
  obtain ⟨r1, r2⟩ := hr.rb hT
  have zp := (plc_norm e n).1.pos
  have dp : (0 : Int) < r.den := by have := r.den_pos; omega
  conv => whnf
  refine ⟨mul_ok b1 r2 (by omega), ?_⟩
  conv => whnf
  refine ⟨mul_ok hv.1 r1 (by omega), ?_⟩
  conv => whnf
  refine ⟨mul_ok (hv.1.mul r1) b3 (by omega), ?_⟩
  conv => whnf
  refine ⟨mul_ok b2 r2 (by omega), ?_⟩
  conv => whnf
  refine ⟨mul_ok hv.2 r1 (by omega), ?_⟩
  conv => whnf
  refine ⟨mul_ok (hv.2.mul r1) b3 (by omega), ?_⟩
  conv => whnf
  refine ⟨mul_ok b3 r2 (by omega), ?_⟩
  ((conv => whnf); repeat' (first | (refine wIf_tt ?_; conv => whnf) | (refine wIf_ff ?_; conv => whnf) | (refine wIf.mk (fun hif => (have hif := of_decide_eq_true hif; ?_)) (fun hif => (have hif := of_decide_eq_false hif; ?_)) <;> (conv => whnf)) | (refine wIf_not ?_) | (refine ⟨(by decide : (_ : Int) ≠ 0), fun w _ hw => ?_⟩; replace hw := hw (by decide); conv => whnf) | (refine ⟨(by decide : (_ : Int) ≠ 0), div_lit (by decide), fun w _ hw => ?_⟩; replace hw := hw (by decide); conv => whnf) | (refine eq_rD ?_; conv => whnf) | (refine eq_ts ?_; conv => whnf) | (refine ne_ts ?_; conv => whnf) | (refine ne_rD ?_; conv => whnf) | (refine eq_vD ?_; conv => whnf) | (refine ne_vD ?_; conv => whnf) | (refine ⟨isi_ok rfl, ?_⟩; conv => whnf) | (apply wMulS.mk; (first | exact mul_l (by decide) (by decide) | exact mul_r (by decide) (by decide) | exact mul_ok (by l_ints) (by l_ints) (by decide)); conv => whnf) | (refine ⟨⟨by decide, by decide, by decide⟩, ?_⟩; conv => whnf) | (refine ⟨⟨by decide, by decide, by omega⟩, ?_⟩; conv => whnf) | (refine ⟨small_sz (Nat.le_of_ble_eq_true rfl), ?_⟩; conv => whnf) | fail))
  have hz : Bd (k + j) ((plc e n).2.2 * r.den) := hp.z.mul hr.d
  have hzp : 0 < (plc e n).2.2 * r.den := Int.mul_pos zp dp
  have hn : r.num.natAbs ≤ T * (r.den : Int).natAbs := by simpa using hr.n
  refine low3 g80 hzp (hz.mono (by omega)) ?_
  conv => whnf
  exact q _ _ (PlB.low hzp (add_le hp.x (Nat.le_of_lt hv.1) hn) (add_le hp.y (Nat.le_of_lt hv.2) hn) hz)
def sp_law_sum_2 : DSp := fun ds Q X => ∃ (r s : Rat) (T j T' j' : Nat), ds = [rD r, rD s] ∧ ShB T j r ∧ ShB T' j' s ∧ T < 2 ^ 100 ∧ T' < 2 ^ 100 ∧ j + j' ≤ 8000 ∧ ∀ t, ShB (T + T') (j + j') t → Q (.d (rD t))
theorem p_law_sum_2 {G : Nat → DSp} (g80 : G 80 = sp_law_lowest_2) : FnW G 2 2 m_law_sum_2 sp_law_sum_2 := by
  intro ds Q X ⟨r, s, T, j, T', j', e0, hr, hs, hT, hT', hk, q⟩
  subst e0
  refine ⟨rfl, ?_⟩
  obtain ⟨r1, r2⟩ := hr.rb hT
  obtain ⟨s1, s2⟩ := hs.rb hT'
  have dp : (0 : Int) < r.den := by have := r.den_pos; omega
  have dp' : (0 : Int) < s.den := by have := s.den_pos; omega
  conv => whnf
  refine ⟨mul_ok r1 s2 (by omega), ?_⟩
  conv => whnf
  refine ⟨mul_ok s1 r2 (by omega), ?_⟩
  conv => whnf
  refine ⟨mul_ok r2 s2 (by omega), ?_⟩
  ((conv => whnf); repeat' (first | (refine wIf_tt ?_; conv => whnf) | (refine wIf_ff ?_; conv => whnf) | (refine wIf.mk (fun hif => (have hif := of_decide_eq_true hif; ?_)) (fun hif => (have hif := of_decide_eq_false hif; ?_)) <;> (conv => whnf)) | (refine wIf_not ?_) | (refine ⟨(by decide : (_ : Int) ≠ 0), fun w _ hw => ?_⟩; replace hw := hw (by decide); conv => whnf) | (refine ⟨(by decide : (_ : Int) ≠ 0), div_lit (by decide), fun w _ hw => ?_⟩; replace hw := hw (by decide); conv => whnf) | (refine eq_rD ?_; conv => whnf) | (refine eq_ts ?_; conv => whnf) | (refine ne_ts ?_; conv => whnf) | (refine ne_rD ?_; conv => whnf) | (refine eq_vD ?_; conv => whnf) | (refine ne_vD ?_; conv => whnf) | (refine ⟨isi_ok rfl, ?_⟩; conv => whnf) | (apply wMulS.mk; (first | exact mul_l (by decide) (by decide) | exact mul_r (by decide) (by decide) | exact mul_ok (by l_ints) (by l_ints) (by decide)); conv => whnf) | (refine ⟨⟨by decide, by decide, by decide⟩, ?_⟩; conv => whnf) | (refine ⟨⟨by decide, by decide, by omega⟩, ?_⟩; conv => whnf) | (refine ⟨small_sz (Nat.le_of_ble_eq_true rfl), ?_⟩; conv => whnf) | fail))
  have hz : Bd (j + j') ((r.den : Int) * s.den) := hr.d.mul hs.d
  have hzp : 0 < (r.den : Int) * s.den := Int.mul_pos dp dp'
  refine low2 g80 hzp (hz.mono (by omega)) ?_
  conv => whnf
  refine q _ (ShB.low hzp ?_ hz)
  refine Nat.le_trans (Int.natAbs_add_le _ _) ?_
  rw [Int.natAbs_mul, Int.natAbs_mul, Int.natAbs_mul, Nat.add_mul]
  have h1 := hr.n
  have h2 := hs.n
  simp only [Int.natAbs_natCast]
  refine Nat.add_le_add ?_ ?_
  · rw [← Nat.mul_assoc]; exact Nat.mul_le_mul_right _ h1
  · refine Nat.le_trans (Nat.mul_le_mul_right _ h2) (Nat.le_of_eq ?_)
    grind
theorem PlB.mono {M k M' k' : Nat} {e n : Rat} (h : PlB M k e n) (a : M ≤ M') (b : k ≤ k') : PlB M' k' e n := ⟨h.z.mono b, Nat.le_trans h.x (Nat.mul_le_mul_right _ a), Nat.le_trans h.y (Nat.mul_le_mul_right _ a)⟩
theorem ShB.mono {T j T' j' : Nat} {r : Rat} (h : ShB T j r) (a : T ≤ T') (b : j ≤ j') : ShB T' j' r := ⟨h.d.mono b, Nat.le_trans h.n (Nat.mul_le_mul_right _ a)⟩
theorem atI_get {α : Type} {f : α → D} {xs : List α} {i : Nat} {x : α} (h : xs[i]? = some x) : atI (xs.map f) (i : Int) = some (f x) := by
  have hi : i < xs.length := by
    rcases Nat.lt_or_ge i xs.length with g | g
    · exact g
    · rw [List.getElem?_eq_none g] at h; cases h
  rw [atI_at (by omega) (by rw [List.length_map]; omega), Int.toNat_natCast, List.getElem?_map, h]
  rfl
structure CrOk (ws : List Wt) (cr : List (List Sh)) : Prop where
  len : cr.length ≤ 12
  at_ : ∀ (i : Nat) (c : List Sh), cr[i]? = some c → ∃ w, ws[i]? = some w ∧ WtOk 140 12 w ∧ c.length ≤ 12 ∧ ∀ s ∈ c, s.1 < w.1.length ∧ ShB 1024 10 s.2
def courseD (cr : List (List Sh)) : D := .tuple (cr.map sharesD)
theorem pl00 : PlB 0 1 0 0 := by
  have h : plc 0 0 = (0, 0, 1) := by decide
  exact ⟨by rw [h]; decide, by rw [h]; decide, by rw [h]; decide⟩
theorem pd00b : PD 0 0 = .tuple [.int 0, .int 0, .int 1] := by
  have : plc 0 0 = (0, 0, 1) := by decide
  unfold PD
  rw [this]
  rfl
def sp_law_end_2 : DSp := fun ds Q X => ∃ (ws : List Wt) (cr : List (List Sh)), ds = [watD ws, courseD cr] ∧ CrOk ws cr ∧ ∀ e n, PlB (2 ^ 160) 3100 e n → Q (.d (PD e n))
theorem p_law_end_2 {G : Nat → DSp} (g90 : G 90 = sp_law_add) (g81 : G 81 = sp_law_sum_2) : FnW G 7 2 m_law_end_2 sp_law_end_2 := by
  intro ds Q X ⟨ws, cr, e0, hc, q⟩
  subst e0
  refine ⟨rfl, ?_⟩
  have hcl := hc.len
  have hlen : ((cr.map sharesD).length : Int) = cr.length := by simp
  ((conv => whnf); repeat' (first | (refine wIf_tt ?_; conv => whnf) | (refine wIf_ff ?_; conv => whnf) | (refine wIf.mk (fun hif => (have hif := of_decide_eq_true hif; ?_)) (fun hif => (have hif := of_decide_eq_false hif; ?_)) <;> (conv => whnf)) | (refine wIf_not ?_) | (refine ⟨(by decide : (_ : Int) ≠ 0), fun w _ hw => ?_⟩; replace hw := hw (by decide); conv => whnf) | (refine ⟨(by decide : (_ : Int) ≠ 0), div_lit (by decide), fun w _ hw => ?_⟩; replace hw := hw (by decide); conv => whnf) | (refine eq_rD ?_; conv => whnf) | (refine eq_ts ?_; conv => whnf) | (refine ne_ts ?_; conv => whnf) | (refine ne_rD ?_; conv => whnf) | (refine eq_vD ?_; conv => whnf) | (refine ne_vD ?_; conv => whnf) | (refine ⟨isi_ok rfl, ?_⟩; conv => whnf) | (apply wMulS.mk; (first | exact mul_l (by decide) (by decide) | exact mul_r (by decide) (by decide) | exact mul_ok (by l_ints) (by l_ints) (by decide)); conv => whnf) | (refine ⟨⟨by decide, by decide, by decide⟩, ?_⟩; conv => whnf) | (refine ⟨⟨by decide, by decide, by omega⟩, ?_⟩; conv => whnf) | (refine ⟨small_sz (Nat.le_of_ble_eq_true rfl), ?_⟩; conv => whnf) | fail))
  refine ⟨by rw [hlen]; exact Int.ofNat_le.mpr (small_sz (by omega)), by omega, ?_⟩
  conv => whnf
  refine ⟨rfl, ?_⟩
  refine rng_ind (fun i ρ => i ≤ cr.length ∧ ∃ (e n : Rat) (a b c d : Option DL.R), PlB (i * 2 ^ 155) (1 + i * 250) e n ∧ ρ = [some (.d (watD ws)), some (.d (courseD cr)), some (.d (PD e n)), a, b, c, d]) _ ?_ ?_ _ ⟨by omega, 0, 0, none, none, none, none, pl00.mono (by omega) (by omega), by rw [pd00b]; rfl⟩
  · rintro ρ ⟨hi, e, n, a, b, c, d, hp, rfl⟩
    have hi : ((cr.map sharesD).length : Int).toNat ≤ 12 := by omega
    conv => whnf
    exact q e n (hp.mono (Nat.le_trans (Nat.mul_le_mul_right _ hi) (by decide)) (by omega))
  rintro i ρ hi ⟨_, e, n, a, b, c, d, hp, rfl⟩ nx hnx
  have hi : i < cr.length := by omega
  obtain ⟨sh, hsh⟩ : ∃ sh, cr[i]? = some sh := ⟨_, List.getElem?_eq_getElem hi⟩
  obtain ⟨w, hw, ow, hl, hs⟩ := hc.at_ i sh hsh
  have a1 := atI_get (f := sharesD) hsh
  have a2 := atI_get (f := wtD) hw
  ((conv => whnf); repeat' (first | (rw [a1]; conv => whnf) | (refine wIf_tt ?_; conv => whnf) | (refine wIf_ff ?_; conv => whnf) | (refine wIf.mk (fun hif => (have hif := of_decide_eq_true hif; ?_)) (fun hif => (have hif := of_decide_eq_false hif; ?_)) <;> (conv => whnf)) | (refine wIf_not ?_) | (refine ⟨(by decide : (_ : Int) ≠ 0), fun w _ hw => ?_⟩; replace hw := hw (by decide); conv => whnf) | (refine ⟨(by decide : (_ : Int) ≠ 0), div_lit (by decide), fun w _ hw => ?_⟩; replace hw := hw (by decide); conv => whnf) | (refine eq_rD ?_; conv => whnf) | (refine eq_ts ?_; conv => whnf) | (refine ne_ts ?_; conv => whnf) | (refine ne_rD ?_; conv => whnf) | (refine eq_vD ?_; conv => whnf) | (refine ne_vD ?_; conv => whnf) | (refine ⟨isi_ok rfl, ?_⟩; conv => whnf) | (apply wMulS.mk; (first | exact mul_l (by decide) (by decide) | exact mul_r (by decide) (by decide) | exact mul_ok (by l_ints) (by l_ints) (by decide)); conv => whnf) | (refine ⟨⟨by decide, by decide, by decide⟩, ?_⟩; conv => whnf) | (refine ⟨⟨by decide, by decide, by omega⟩, ?_⟩; conv => whnf) | (refine ⟨small_sz (Nat.le_of_ble_eq_true rfl), ?_⟩; conv => whnf) | fail))
  refine ⟨rfl, ?_⟩
  refine forLoop_ind (fun ds ρ => ∃ (k : Nat) (qs : List Sh) (e n t : Rat) (c d : Option DL.R), ds = qs.map shD ∧ k + qs.length ≤ 12 ∧ (∀ s ∈ qs, s.1 < w.1.length ∧ ShB 1024 10 s.2) ∧ PlB (i * 2 ^ 155 + k * 2 ^ 150) (1 + i * 250 + 10 * k) e n ∧ ShB (k * 1024) (1 + 10 * k) t ∧ ρ = [some (.d (watD ws)), some (.d (courseD cr)), some (.d (PD e n)), some (.d (.int i)), some (.d (rD t)), c, d]) ?_ ?_ _ _ ⟨0, sh, e, n, 0, _, _, rfl, by omega, hs, hp.mono (by omega) (by omega), ⟨by decide, by decide⟩, rfl⟩
  · rintro ρ ⟨k, qs, e, n, t, c, d, e1, h1, h2, h3, h4, rfl⟩
    have hk : k ≤ 12 := by omega
    conv => whnf
    rw [a2]
    conv => whnf
    refine gC g90 ⟨e, n, w.2, t, _, _, _, _, rfl, h3.mono (Nat.add_le_add_left (Nat.mul_le_mul_right _ hk) _) (show 1 + i * 250 + 10 * k ≤ 1 + i * 250 + 120 by omega), ow.st, h4.mono (show k * 1024 ≤ 12288 by omega) (show 1 + 10 * k ≤ 121 by omega), ?_, by decide, by omega, fun e' n' hp' => ?_⟩
    · have : i * 2 ^ 155 ≤ 12 * 2 ^ 155 := Nat.mul_le_mul_right _ (by omega)
      refine Nat.lt_of_le_of_lt (Nat.add_le_add_right this _) (by decide)
    conv => whnf
    refine hnx _ ⟨by omega, e', n', _, _, _, _, hp'.mono ?_ (by omega), rfl⟩
    rw [Nat.add_mul, Nat.add_assoc]
    exact Nat.add_le_add_left (by decide) _
  rintro d0 ds ρ ⟨k, qs, e, n, t, c, d, e1, h1, h2, h3, h4, rfl⟩ nx2 hnx2
  cases qs with
  | nil => cases e1
  | cons s qs =>
    cases e1
    obtain ⟨s1, s2⟩ := h2 s List.mem_cons_self
    simp at h1
    have a3 := atI_v s1
    have hvb := vAt_bd ow.vb s.1
    have hiM : i * 2 ^ 155 ≤ 12 * 2 ^ 155 := Nat.mul_le_mul_right _ (by omega)
    have hkM : k * 2 ^ 150 ≤ 12 * 2 ^ 150 := Nat.mul_le_mul_right _ (by omega)
    conv => whnf
    rw [a2]
    conv => whnf
    rw [a3]
    conv => whnf
    refine gC g90 ⟨e, n, _, s.2, _, _, _, _, rfl, h3, hvb, s2, Nat.lt_of_le_of_lt (Nat.add_le_add hiM hkM) (by decide), by decide, by omega, fun e' n' hp' => ?_⟩
    conv => whnf
    refine gC g81 ⟨t, s.2, _, _, _, _, rfl, h4, s2, Nat.lt_of_le_of_lt (show k * 1024 ≤ 12 * 1024 by omega) (by decide), by decide, by omega, fun t' ht' => ?_⟩
    conv => whnf
    refine hnx2 _ ⟨k + 1, qs, e', n', t', _, _, rfl, by omega, fun u hu => h2 u (List.mem_cons_of_mem _ hu), hp'.mono ?_ (by omega), ht'.mono (by omega) (by omega), rfl⟩
    rw [Nat.add_mul, Nat.add_assoc]
    exact Nat.add_le_add_left (Nat.add_le_add_left (by decide) _) _
theorem ixN_nat {n : Nat} {i : Int} (h0 : 0 ≤ i) (h1 : i < n) : ixN n i = some i.toNat := by
  unfold ixN
  rw [if_pos h0, if_pos h1]
def sp_law_parts : DSp := fun ds Q X => ∃ (c m b : Int), ds = [.int c, .int m, .int b] ∧ 1 ≤ m ∧ m ≤ 1000 ∧ 1 ≤ b ∧ b ≤ 60 ∧ ∀ ts : List Int, (ts.length : Int) = m → (∀ t ∈ ts, 0 ≤ t ∧ t ≤ 180) → Q (.d (.list (ts.map .int)))
theorem p_law_parts {G : Nat → DSp} (g43 : G 43 = sp_law_draw) : FnW G 10 3 m_law_parts sp_law_parts := by
  intro ds Q X ⟨c, m, b, e, h1, h2, h3, h4, q⟩
  subst e
  refine ⟨rfl, ?_⟩
  have dr : ∀ (a k m : Int) (W : R → Prop) {X : Nat → Prop}, (0 ≤ k ∧ k ≤ 1000000 ∧ 0 < m) → (∀ z : Int, 0 ≤ z → z < m → W (.d (.int z))) → G 43 [.int a, .int k, .int m] W X := fun a k m W _ hh h => gC g43 ⟨a, k, m, rfl, hh.1, hh.2.1, hh.2.2, h⟩
  conv => whnf
  refine dr c 31 (b + 1) _ (by omega) fun cut hc1 hc2 => ?_
  conv => whnf
  refine dr c 32 m _ (by omega) fun i1 hi1 hi1' => ?_
  conv => whnf
  refine dr c 33 m _ (by omega) fun i2 hi2 hi2' => ?_
  conv => whnf
  refine dr c 34 m _ (by omega) fun i3 hi3 hi3' => ?_
  conv => whnf
  refine dr c 35 (b - cut + 1) _ (by omega) fun rest hr1 hr2 => ?_
  obtain ⟨mn, rfl⟩ := Int.eq_ofNat_of_zero_le (show 0 ≤ m by omega)
  ((conv => whnf); repeat' (first | (refine wIf_tt ?_; conv => whnf) | (refine wIf_ff ?_; conv => whnf) | (refine wIf.mk (fun hif => (have hif := of_decide_eq_true hif; ?_)) (fun hif => (have hif := of_decide_eq_false hif; ?_)) <;> (conv => whnf)) | (refine wIf_not ?_) | (refine ⟨(by decide : (_ : Int) ≠ 0), fun w _ hw => ?_⟩; replace hw := hw (by decide); conv => whnf) | (refine ⟨(by decide : (_ : Int) ≠ 0), div_lit (by decide), fun w _ hw => ?_⟩; replace hw := hw (by decide); conv => whnf) | (refine eq_rD ?_; conv => whnf) | (refine eq_ts ?_; conv => whnf) | (refine ne_ts ?_; conv => whnf) | (refine ne_rD ?_; conv => whnf) | (refine eq_vD ?_; conv => whnf) | (refine ne_vD ?_; conv => whnf) | (refine ⟨isi_ok rfl, ?_⟩; conv => whnf) | (apply wMulS.mk; (first | exact mul_l (by decide) (by decide) | exact mul_r (by decide) (by decide) | exact mul_ok (by l_ints) (by l_ints) (by decide)); conv => whnf) | (refine ⟨⟨by decide, by decide, by decide⟩, ?_⟩; conv => whnf) | (refine ⟨⟨by decide, by decide, by omega⟩, ?_⟩; conv => whnf) | (refine ⟨small_sz (Nat.le_of_ble_eq_true rfl), ?_⟩; conv => whnf) | fail))
  refine ⟨Int.le_trans h2 (by decide), by omega, ?_⟩
  conv => whnf
  refine lc_rng (fun i acc => acc = (List.replicate i (0 : Int)).map .int) mn ?_ ?_ rfl
  case refine_2 =>
    rintro i acc hi rfl k hk
    conv => whnf
    refine wIf_tt ?_
    conv => whnf
    refine hk _ ?_
    rw [List.replicate_succ', List.map_append]
    rfl
  rintro acc rfl
  have up : ∀ (ts : List Int) (i z lo hi : Int), ts.length = mn → (∀ t ∈ ts, 0 ≤ t ∧ t ≤ hi) → 0 ≤ i → i < mn → 0 ≤ z → z ≤ 60 → ∃ t, atI (ts.map PyData.int) i = some (.int t) ∧ ixN (ts.map PyData.int).length i = some i.toNat ∧ ((ts.map PyData.int).set i.toNat (.int (t + z)) = (ts.set i.toNat (t + z)).map .int) ∧ (ts.set i.toNat (t + z)).length = mn ∧ ∀ u ∈ ts.set i.toNat (t + z), 0 ≤ u ∧ u ≤ hi + 60 := fun ts i z lo hi hl hb h0 h1 hz hz2 => by
    obtain ⟨t, ht, a1⟩ := atI_maps (f := PyData.int) (xs := ts) (i := i) (by omega) (by omega)
    refine ⟨t, a1, ixN_nat h0 (by rw [List.length_map]; omega), (List.map_set).symm, by rw [List.length_set]; exact hl, fun u hu => ?_⟩
    have hbt := hb t ht
    rcases List.mem_or_eq_of_mem_set hu with h | h
    · have := hb u h; omega
    · omega
  obtain ⟨t1, a1, b1, c1, l1, m1⟩ := up (List.replicate mn 0) i1 cut 0 0 (by simp) (by simp) hi1 hi1' hc1 (by omega)
  ((conv => whnf); repeat' (first | (refine wIf_tt ?_; conv => whnf) | (refine wIf_ff ?_; conv => whnf) | (refine wIf.mk (fun hif => (have hif := of_decide_eq_true hif; ?_)) (fun hif => (have hif := of_decide_eq_false hif; ?_)) <;> (conv => whnf)) | (refine wIf_not ?_) | (refine ⟨(by decide : (_ : Int) ≠ 0), fun w _ hw => ?_⟩; replace hw := hw (by decide); conv => whnf) | (refine ⟨(by decide : (_ : Int) ≠ 0), div_lit (by decide), fun w _ hw => ?_⟩; replace hw := hw (by decide); conv => whnf) | (refine eq_rD ?_; conv => whnf) | (refine eq_ts ?_; conv => whnf) | (refine ne_ts ?_; conv => whnf) | (refine ne_rD ?_; conv => whnf) | (refine eq_vD ?_; conv => whnf) | (refine ne_vD ?_; conv => whnf) | (refine ⟨isi_ok rfl, ?_⟩; conv => whnf) | (apply wMulS.mk; (first | exact mul_l (by decide) (by decide) | exact mul_r (by decide) (by decide) | exact mul_ok (by l_ints) (by l_ints) (by decide)); conv => whnf) | (refine ⟨⟨by decide, by decide, by decide⟩, ?_⟩; conv => whnf) | (refine ⟨⟨by decide, by decide, by omega⟩, ?_⟩; conv => whnf) | (refine ⟨small_sz (Nat.le_of_ble_eq_true rfl), ?_⟩; conv => whnf) | fail))
  rw [a1]
  conv => whnf
  rw [b1]
  conv => whnf
  rw [c1]
  obtain ⟨t2, a2, b2, c2, l2, m2⟩ := up _ i2 rest 0 _ l1 m1 hi2 hi2' hr1 (by omega)
  conv => whnf
  rw [a2]
  conv => whnf
  rw [b2]
  conv => whnf
  rw [c2]
  obtain ⟨t3, a3, b3, c3, l3, m3⟩ := up _ i3 (b - cut - rest) 0 _ l2 m2 hi3 hi3' (by omega) (by omega)
  have e3 : t3 + b - cut - rest = t3 + (b - cut - rest) := by omega
  conv => whnf
  rw [a3]
  conv => whnf
  rw [e3]
  rw [b3]
  conv => whnf
  rw [c3]
  ((conv => whnf); repeat' (first | (refine wIf_tt ?_; conv => whnf) | (refine wIf_ff ?_; conv => whnf) | (refine wIf.mk (fun hif => (have hif := of_decide_eq_true hif; ?_)) (fun hif => (have hif := of_decide_eq_false hif; ?_)) <;> (conv => whnf)) | (refine wIf_not ?_) | (refine ⟨(by decide : (_ : Int) ≠ 0), fun w _ hw => ?_⟩; replace hw := hw (by decide); conv => whnf) | (refine ⟨(by decide : (_ : Int) ≠ 0), div_lit (by decide), fun w _ hw => ?_⟩; replace hw := hw (by decide); conv => whnf) | (refine eq_rD ?_; conv => whnf) | (refine eq_ts ?_; conv => whnf) | (refine ne_ts ?_; conv => whnf) | (refine ne_rD ?_; conv => whnf) | (refine eq_vD ?_; conv => whnf) | (refine ne_vD ?_; conv => whnf) | (refine ⟨isi_ok rfl, ?_⟩; conv => whnf) | (apply wMulS.mk; (first | exact mul_l (by decide) (by decide) | exact mul_r (by decide) (by decide) | exact mul_ok (by l_ints) (by l_ints) (by decide)); conv => whnf) | (refine ⟨⟨by decide, by decide, by decide⟩, ?_⟩; conv => whnf) | (refine ⟨⟨by decide, by decide, by omega⟩, ?_⟩; conv => whnf) | (refine ⟨small_sz (Nat.le_of_ble_eq_true rfl), ?_⟩; conv => whnf) | fail))
  exact q _ (by omega) m3
theorem sum_bd (ts : List Int) (h : ∀ t ∈ ts, 1 ≤ t ∧ t ≤ 5) : (ts.length : Int) ≤ ts.sum ∧ ts.sum ≤ 5 * ts.length := by
  induction ts with
  | nil => simp
  | cons t ts ih =>
    have h1 := h t List.mem_cons_self
    have h2 := ih fun u hu => h u (List.mem_cons_of_mem _ hu)
    rw [List.sum_cons, List.length_cons]
    omega
def sp_law_course : DSp := fun ds Q X => ∃ (ws : List Wt) (c : Int), ds = [watD ws, .int c] ∧ ws.length ≤ 12 ∧ (∀ w ∈ ws, WtOk 140 12 w) ∧ ∀ cr, CrOk ws cr → Q (.d (courseD cr))
theorem p_law_course {G : Nat → DSp} (g43 : G 43 = sp_law_draw) (g88 : G 88 = sp_law_parts) (g80 : G 80 = sp_law_lowest_2) : FnW G 7 2 m_law_course sp_law_course := by
  intro ds Q X ⟨ws, c, e, hl, hw, q⟩
  subst e
  refine ⟨rfl, ?_⟩
  have dr : ∀ (a k m : Int) (W : R → Prop) {X : Nat → Prop}, (0 ≤ k ∧ k ≤ 1000000 ∧ 0 < m) → (∀ z : Int, 0 ≤ z → z < m → W (.d (.int z))) → G 43 [.int a, .int k, .int m] W X := fun a k m W _ hh h => gC g43 ⟨a, k, m, rfl, hh.1, hh.2.1, hh.2.2, h⟩
  have hlen : ((ws.map wtD).length : Int) = ws.length := by simp
  ((conv => whnf); repeat' (first | (refine wIf_tt ?_; conv => whnf) | (refine wIf_ff ?_; conv => whnf) | (refine wIf.mk (fun hif => (have hif := of_decide_eq_true hif; ?_)) (fun hif => (have hif := of_decide_eq_false hif; ?_)) <;> (conv => whnf)) | (refine wIf_not ?_) | (refine ⟨(by decide : (_ : Int) ≠ 0), fun w _ hw => ?_⟩; replace hw := hw (by decide); conv => whnf) | (refine ⟨(by decide : (_ : Int) ≠ 0), div_lit (by decide), fun w _ hw => ?_⟩; replace hw := hw (by decide); conv => whnf) | (refine eq_rD ?_; conv => whnf) | (refine eq_ts ?_; conv => whnf) | (refine ne_ts ?_; conv => whnf) | (refine ne_rD ?_; conv => whnf) | (refine eq_vD ?_; conv => whnf) | (refine ne_vD ?_; conv => whnf) | (refine ⟨isi_ok rfl, ?_⟩; conv => whnf) | (apply wMulS.mk; (first | exact mul_l (by decide) (by decide) | exact mul_r (by decide) (by decide) | exact mul_ok (by l_ints) (by l_ints) (by decide)); conv => whnf) | (refine ⟨⟨by decide, by decide, by decide⟩, ?_⟩; conv => whnf) | (refine ⟨⟨by decide, by decide, by omega⟩, ?_⟩; conv => whnf) | (refine ⟨small_sz (Nat.le_of_ble_eq_true rfl), ?_⟩; conv => whnf) | fail))
  refine ⟨by rw [hlen]; exact Int.ofNat_le.mpr (small_sz (by omega)), by omega, ?_⟩
  conv => whnf
  refine ⟨rfl, ?_⟩
  refine rng_ind (fun i ρ => i ≤ ws.length ∧ ∃ (cr : List (List Sh)) (x y z : Option DL.R), (cr.length = i ∧ ∀ (j : Nat) (sh : List Sh), cr[j]? = some sh → ∃ w, ws[j]? = some w ∧ WtOk 140 12 w ∧ sh.length ≤ 12 ∧ ∀ s ∈ sh, s.1 < w.1.length ∧ ShB 1024 10 s.2) ∧ ρ = [some (.d (watD ws)), some (.d (.int c)), some (.l (cr.map sharesD) true), x, y, z, none]) _ ?_ ?_ _ ⟨by omega, [], none, none, none, ⟨rfl, by simp⟩, rfl⟩
  · rintro ρ ⟨_, cr, x, y, z, ⟨h1, h2⟩, rfl⟩
    conv => whnf
    refine q cr ⟨?_, h2⟩
    omega
  rintro i ρ hi ⟨_, cr, x, y, z, ⟨h1, h2⟩, rfl⟩ nx hnx
  have hi : i < ws.length := by omega
  obtain ⟨w, hwi⟩ : ∃ w, ws[i]? = some w := ⟨_, List.getElem?_eq_getElem hi⟩
  have ow := hw w (List.mem_of_getElem? hwi)
  have a1 := atI_get (f := wtD) hwi
  have hn1 := List.length_pos_iff.mpr ow.ne
  have hn2 := ow.len
  have hlv : ((w.1.map vD).length : Int) = w.1.length := by simp
  have done : ∀ (ts : List Int) (b : Int) (x z : Option DL.R), ts.length = w.1.length → (∀ t ∈ ts, t ≤ 180) → 1 ≤ b → b ≤ 60 → ∀ acc : List Sh, acc.length ≤ ts.length → (∀ s ∈ acc, s.1 < w.1.length ∧ ShB 1024 10 s.2) → ∀ x y z, nx [some (.d (watD ws)), some (.d (.int c)), some (.l (cr.map sharesD ++ [sharesD acc]) true), x, y, z, none] := fun ts b _ _ e1 e2 e3 e4 acc e5 e6 x y z => by
    refine hnx _ ⟨by omega, cr ++ [acc], x, y, z, ⟨by simp; omega, fun j sh hj => ?_⟩, by rw [List.map_append]; rfl⟩
    rcases Nat.lt_trichotomy j cr.length with h | h | h
    · rw [List.getElem?_append_left h] at hj
      exact h2 j sh hj
    · subst h
      rw [List.getElem?_append_right (Nat.le_refl _), Nat.sub_self] at hj
      cases hj
      exact ⟨w, by rw [h1]; exact hwi, ow, by omega, e6⟩
    · rw [List.getElem?_eq_none (by simp; omega)] at hj
      cases hj
  conv => whnf
  refine ⟨small_sz (by decide), ?_⟩
  conv => whnf
  refine dr _ 39 3 _ (by decide) fun z0 hz01 hz02 => ?_
  obtain ⟨sz, e1, hsz⟩ := pick3 (i := z0) (a := 1) (b := 6) (c := 60) hz01 hz02
  have hsz2 : 1 ≤ sz ∧ sz ≤ 60 := by omega
  conv => whnf
  rw [e1]
  conv => whnf
  refine dr _ (40 + (i : Int)) sz _ (by omega) fun z1 hz11 hz12 => ?_
  ((conv => whnf); repeat' (first | (refine wIf_tt ?_; conv => whnf) | (refine wIf_ff ?_; conv => whnf) | (refine wIf.mk (fun hif => (have hif := of_decide_eq_true hif; ?_)) (fun hif => (have hif := of_decide_eq_false hif; ?_)) <;> (conv => whnf)) | (refine wIf_not ?_) | (refine ⟨(by decide : (_ : Int) ≠ 0), fun w _ hw => ?_⟩; replace hw := hw (by decide); conv => whnf) | (refine ⟨(by decide : (_ : Int) ≠ 0), div_lit (by decide), fun w _ hw => ?_⟩; replace hw := hw (by decide); conv => whnf) | (refine eq_rD ?_; conv => whnf) | (refine eq_ts ?_; conv => whnf) | (refine ne_ts ?_; conv => whnf) | (refine ne_rD ?_; conv => whnf) | (refine eq_vD ?_; conv => whnf) | (refine ne_vD ?_; conv => whnf) | (refine ⟨isi_ok rfl, ?_⟩; conv => whnf) | (apply wMulS.mk; (first | exact mul_l (by decide) (by decide) | exact mul_r (by decide) (by decide) | exact mul_ok (by l_ints) (by l_ints) (by decide)); conv => whnf) | (refine ⟨⟨by decide, by decide, by decide⟩, ?_⟩; conv => whnf) | (refine ⟨⟨by decide, by decide, by omega⟩, ?_⟩; conv => whnf) | (refine ⟨small_sz (Nat.le_of_ble_eq_true rfl), ?_⟩; conv => whnf) | fail))
  rw [a1]
  conv => whnf
  refine gC g88 ⟨_, (w.1.map vD).length, 1 + z1, rfl, by omega, by omega, by omega, by omega, fun ts ht1 ht2 => ?_⟩
  conv => whnf
  refine dr _ 38 4 _ (by decide) fun z2 _ _ => ?_
  conv => whnf
  refine wIf.mk (fun hz => ?_) (fun hz => ?_)
  · conv => whnf
    rw [a1]
    conv => whnf
    refine ⟨Int.ofNat_le.mpr (small_sz (by simp; omega)), by simp, ?_⟩
    conv => whnf
    refine lc_rng (fun i acc => ∃ us : List Int, acc = us.map .int ∧ us.length = i ∧ ∀ u ∈ us, 1 ≤ u ∧ u ≤ 5) (w.1.map vD).length ?_ ?_ ⟨[], rfl, by simp, by simp⟩
    case refine_2 =>
      rintro j acc hj ⟨us, rfl, h3, h4⟩ k hk
      have hj : j < w.1.length := by simpa using hj
      conv => whnf
      refine wIf_tt ?_
      conv => whnf
      refine dr _ (120 + (j : Int)) 5 _ (by omega) fun z3 hz31 hz32 => ?_
      conv => whnf
      refine hk _ ⟨us ++ [1 + z3], by rw [List.map_append]; rfl, by simp; omega, fun u hu => ?_⟩
      rcases List.mem_append.mp hu with h | h
      · exact h4 u h
      · rw [List.mem_singleton.mp h]; omega
    rintro acc ⟨us, rfl, h3, h4⟩
    have h3 : us.length = w.1.length := by simpa using h3
    have hsum := sum_bd us h4
    have HT : ∀ t ∈ us, 0 ≤ t ∧ t ≤ 180 := fun t ht => by have := h4 t ht; omega
    have HB1 : 0 < us.sum := by omega
    conv => whnf
    refine ⟨us, rfl, ?_⟩
    conv => whnf
    refine ⟨Int.ofNat_le.mpr (small_sz (by simp; omega)), by simp, ?_⟩
    conv => whnf
    refine lc_rng (fun i acc => ∃ shs : List Sh, acc = shs.map shD ∧ shs.length ≤ i ∧ ∀ s ∈ shs, s.1 < w.1.length ∧ ShB 1024 10 s.2) (us.map PyData.int).length ?_ ?_ ⟨[], rfl, by simp, by simp⟩
    case refine_2 =>
      rintro j acc hj ⟨shs, rfl, h3, h4⟩ k hk
      have hj : j < us.length := by simpa using hj
      obtain ⟨t, ht, a2⟩ := atI_maps (f := PyData.int) (xs := us) (i := (j : Int)) (by omega) (by omega)
      have htb := HT t ht
      conv => whnf
      rw [a2]
      conv => whnf
      refine wIf.mk (fun hp => ?_) (fun hp => ?_)
      · have hp : 0 < t := of_decide_eq_true hp
        conv => whnf
        rw [a2]
        ((conv => whnf); repeat' (first | (refine wIf_tt ?_; conv => whnf) | (refine wIf_ff ?_; conv => whnf) | (refine wIf.mk (fun hif => (have hif := of_decide_eq_true hif; ?_)) (fun hif => (have hif := of_decide_eq_false hif; ?_)) <;> (conv => whnf)) | (refine wIf_not ?_) | (refine ⟨(by decide : (_ : Int) ≠ 0), fun w _ hw => ?_⟩; replace hw := hw (by decide); conv => whnf) | (refine ⟨(by decide : (_ : Int) ≠ 0), div_lit (by decide), fun w _ hw => ?_⟩; replace hw := hw (by decide); conv => whnf) | (refine eq_rD ?_; conv => whnf) | (refine eq_ts ?_; conv => whnf) | (refine ne_ts ?_; conv => whnf) | (refine ne_rD ?_; conv => whnf) | (refine eq_vD ?_; conv => whnf) | (refine ne_vD ?_; conv => whnf) | (refine ⟨isi_ok rfl, ?_⟩; conv => whnf) | (apply wMulS.mk; (first | exact mul_l (by decide) (by decide) | exact mul_r (by decide) (by decide) | exact mul_ok (by l_ints) (by l_ints) (by decide)); conv => whnf) | (refine ⟨⟨by decide, by decide, by decide⟩, ?_⟩; conv => whnf) | (refine ⟨⟨by decide, by decide, by omega⟩, ?_⟩; conv => whnf) | (refine ⟨small_sz (Nat.le_of_ble_eq_true rfl), ?_⟩; conv => whnf) | fail))
        refine low2 g80 HB1 (bd40 (by omega) (by omega) |>.mono (by decide)) ?_
        ((conv => whnf); repeat' (first | (refine wIf_tt ?_; conv => whnf) | (refine wIf_ff ?_; conv => whnf) | (refine wIf.mk (fun hif => (have hif := of_decide_eq_true hif; ?_)) (fun hif => (have hif := of_decide_eq_false hif; ?_)) <;> (conv => whnf)) | (refine wIf_not ?_) | (refine ⟨(by decide : (_ : Int) ≠ 0), fun w _ hw => ?_⟩; replace hw := hw (by decide); conv => whnf) | (refine ⟨(by decide : (_ : Int) ≠ 0), div_lit (by decide), fun w _ hw => ?_⟩; replace hw := hw (by decide); conv => whnf) | (refine eq_rD ?_; conv => whnf) | (refine eq_ts ?_; conv => whnf) | (refine ne_ts ?_; conv => whnf) | (refine ne_rD ?_; conv => whnf) | (refine eq_vD ?_; conv => whnf) | (refine ne_vD ?_; conv => whnf) | (refine ⟨isi_ok rfl, ?_⟩; conv => whnf) | (apply wMulS.mk; (first | exact mul_l (by decide) (by decide) | exact mul_r (by decide) (by decide) | exact mul_ok (by l_ints) (by l_ints) (by decide)); conv => whnf) | (refine ⟨⟨by decide, by decide, by decide⟩, ?_⟩; conv => whnf) | (refine ⟨⟨by decide, by decide, by omega⟩, ?_⟩; conv => whnf) | (refine ⟨small_sz (Nat.le_of_ble_eq_true rfl), ?_⟩; conv => whnf) | fail))
        refine hk _ ⟨shs ++ [(j, Rat.divInt t us.sum)], by rw [List.map_append]; rfl, by simp; omega, fun u hu => ?_⟩
        rcases List.mem_append.mp hu with h | h
        · exact h4 u h
        · rw [List.mem_singleton.mp h]
          exact ⟨by show j < w.1.length; omega, ShB.low HB1 (by omega) (bd_of (by omega) (by omega))⟩
      · exact hk _ ⟨shs, rfl, by omega, h4⟩
    rintro acc ⟨shs, rfl, h3, h4⟩
    conv => whnf
    refine ⟨by simp; exact small_lt (by omega), ?_⟩
    conv => whnf
    exact done us us.sum none none (by omega) (fun t ht => by have := HT t ht; omega) (by omega) (by omega) shs (by simpa using h3) h4 _ _ _
  · conv => whnf
    have HT := ht2
    have HB1 : 0 < 1 + z1 := by omega
    refine ⟨Int.ofNat_le.mpr (small_sz (by simp; omega)), by simp, ?_⟩
    conv => whnf
    refine lc_rng (fun i acc => ∃ shs : List Sh, acc = shs.map shD ∧ shs.length ≤ i ∧ ∀ s ∈ shs, s.1 < w.1.length ∧ ShB 1024 10 s.2) (ts.map PyData.int).length ?_ ?_ ⟨[], rfl, by simp, by simp⟩
    case refine_2 =>
      rintro j acc hj ⟨shs, rfl, h3, h4⟩ k hk
      have hj : j < ts.length := by simpa using hj
      obtain ⟨t, ht, a2⟩ := atI_maps (f := PyData.int) (xs := ts) (i := (j : Int)) (by omega) (by omega)
      have htb := HT t ht
      conv => whnf
      rw [a2]
      conv => whnf
      refine wIf.mk (fun hp => ?_) (fun hp => ?_)
      · have hp : 0 < t := of_decide_eq_true hp
        conv => whnf
        rw [a2]
        ((conv => whnf); repeat' (first | (refine wIf_tt ?_; conv => whnf) | (refine wIf_ff ?_; conv => whnf) | (refine wIf.mk (fun hif => (have hif := of_decide_eq_true hif; ?_)) (fun hif => (have hif := of_decide_eq_false hif; ?_)) <;> (conv => whnf)) | (refine wIf_not ?_) | (refine ⟨(by decide : (_ : Int) ≠ 0), fun w _ hw => ?_⟩; replace hw := hw (by decide); conv => whnf) | (refine ⟨(by decide : (_ : Int) ≠ 0), div_lit (by decide), fun w _ hw => ?_⟩; replace hw := hw (by decide); conv => whnf) | (refine eq_rD ?_; conv => whnf) | (refine eq_ts ?_; conv => whnf) | (refine ne_ts ?_; conv => whnf) | (refine ne_rD ?_; conv => whnf) | (refine eq_vD ?_; conv => whnf) | (refine ne_vD ?_; conv => whnf) | (refine ⟨isi_ok rfl, ?_⟩; conv => whnf) | (apply wMulS.mk; (first | exact mul_l (by decide) (by decide) | exact mul_r (by decide) (by decide) | exact mul_ok (by l_ints) (by l_ints) (by decide)); conv => whnf) | (refine ⟨⟨by decide, by decide, by decide⟩, ?_⟩; conv => whnf) | (refine ⟨⟨by decide, by decide, by omega⟩, ?_⟩; conv => whnf) | (refine ⟨small_sz (Nat.le_of_ble_eq_true rfl), ?_⟩; conv => whnf) | fail))
        refine low2 g80 HB1 (bd40 (by omega) (by omega) |>.mono (by decide)) ?_
        ((conv => whnf); repeat' (first | (refine wIf_tt ?_; conv => whnf) | (refine wIf_ff ?_; conv => whnf) | (refine wIf.mk (fun hif => (have hif := of_decide_eq_true hif; ?_)) (fun hif => (have hif := of_decide_eq_false hif; ?_)) <;> (conv => whnf)) | (refine wIf_not ?_) | (refine ⟨(by decide : (_ : Int) ≠ 0), fun w _ hw => ?_⟩; replace hw := hw (by decide); conv => whnf) | (refine ⟨(by decide : (_ : Int) ≠ 0), div_lit (by decide), fun w _ hw => ?_⟩; replace hw := hw (by decide); conv => whnf) | (refine eq_rD ?_; conv => whnf) | (refine eq_ts ?_; conv => whnf) | (refine ne_ts ?_; conv => whnf) | (refine ne_rD ?_; conv => whnf) | (refine eq_vD ?_; conv => whnf) | (refine ne_vD ?_; conv => whnf) | (refine ⟨isi_ok rfl, ?_⟩; conv => whnf) | (apply wMulS.mk; (first | exact mul_l (by decide) (by decide) | exact mul_r (by decide) (by decide) | exact mul_ok (by l_ints) (by l_ints) (by decide)); conv => whnf) | (refine ⟨⟨by decide, by decide, by decide⟩, ?_⟩; conv => whnf) | (refine ⟨⟨by decide, by decide, by omega⟩, ?_⟩; conv => whnf) | (refine ⟨small_sz (Nat.le_of_ble_eq_true rfl), ?_⟩; conv => whnf) | fail))
        refine hk _ ⟨shs ++ [(j, Rat.divInt t (1 + z1))], by rw [List.map_append]; rfl, by simp; omega, fun u hu => ?_⟩
        rcases List.mem_append.mp hu with h | h
        · exact h4 u h
        · rw [List.mem_singleton.mp h]
          exact ⟨by show j < w.1.length; omega, ShB.low HB1 (by omega) (bd_of (by omega) (by omega))⟩
      · exact hk _ ⟨shs, rfl, by omega, h4⟩
    rintro acc ⟨shs, rfl, h3, h4⟩
    conv => whnf
    refine ⟨by simp; exact small_lt (by omega), ?_⟩
    conv => whnf
    exact done ts (1 + z1) none none (by omega) (fun t ht => by have := HT t ht; omega) (by omega) (by omega) shs (by simpa using h3) h4 _ _ _
def sp_law_free_place : DSp := fun ds Q X => ∃ (c f : Int), ds = [.int c, .int f] ∧ 0 ≤ f ∧ f ≤ 10 ^ 9 ∧ ∀ e n, PlB (2 ^ 170) 3200 e n → Q (.d (PD e n))
theorem p_law_free_place {G : Nat → DSp} (g80 : G 80 = sp_law_lowest_2) : FnW G 5 2 m_law_free_place sp_law_free_place := by
  intro ds Q X ⟨c, f, e0, h1, h2, q⟩
  subst e0
  refine ⟨rfl, ?_⟩
  obtain ⟨wd, hwd⟩ : ∃ wd, wd = 80 * (f + 1) + 1 := ⟨_, rfl⟩
  have bs : Bd 64 wd := bd64 (by omega) (by omega)
  have key : ∀ l r : Int, (0 < wd → r = l % wd) → 0 ≤ r ∧ r < wd := fun l r h => by
    have h := h (by omega)
    have a := Int.emod_nonneg l (show wd ≠ 0 by omega)
    have b := Int.emod_lt_of_pos l (show 0 < wd by omega)
    omega
  ((conv => whnf); repeat' (first | (refine wIf_tt ?_; conv => whnf) | (refine wIf_ff ?_; conv => whnf) | (refine wIf.mk (fun hif => (have hif := of_decide_eq_true hif; ?_)) (fun hif => (have hif := of_decide_eq_false hif; ?_)) <;> (conv => whnf)) | (refine wIf_not ?_) | (refine ⟨(by decide : (_ : Int) ≠ 0), fun w _ hw => ?_⟩; replace hw := hw (by decide); conv => whnf) | (refine ⟨(by decide : (_ : Int) ≠ 0), div_lit (by decide), fun w _ hw => ?_⟩; replace hw := hw (by decide); conv => whnf) | (refine eq_rD ?_; conv => whnf) | (refine eq_ts ?_; conv => whnf) | (refine ne_ts ?_; conv => whnf) | (refine ne_rD ?_; conv => whnf) | (refine eq_vD ?_; conv => whnf) | (refine ne_vD ?_; conv => whnf) | (refine ⟨isi_ok rfl, ?_⟩; conv => whnf) | (apply wMulS.mk; (first | exact mul_l (by decide) (by decide) | exact mul_r (by decide) (by decide) | exact mul_ok (by l_ints) (by l_ints) (by decide)); conv => whnf) | (refine ⟨⟨by decide, by decide, by decide⟩, ?_⟩; conv => whnf) | (refine ⟨⟨by decide, by decide, by omega⟩, ?_⟩; conv => whnf) | (refine ⟨small_sz (Nat.le_of_ble_eq_true rfl), ?_⟩; conv => whnf) | fail))
  rw [← hwd]
  ((conv => whnf); repeat' (first | (refine ⟨by omega, fun w _ hw => ?_⟩; replace hw := key _ _ hw; conv => whnf) | (refine ⟨by omega, div_ok bs (by decide), fun w _ _ => ?_⟩; conv => whnf) | (refine wIf_tt ?_; conv => whnf) | (refine wIf_ff ?_; conv => whnf) | (refine wIf.mk (fun hif => (have hif := of_decide_eq_true hif; ?_)) (fun hif => (have hif := of_decide_eq_false hif; ?_)) <;> (conv => whnf)) | (refine wIf_not ?_) | (refine ⟨(by decide : (_ : Int) ≠ 0), fun w _ hw => ?_⟩; replace hw := hw (by decide); conv => whnf) | (refine ⟨(by decide : (_ : Int) ≠ 0), div_lit (by decide), fun w _ hw => ?_⟩; replace hw := hw (by decide); conv => whnf) | (refine eq_rD ?_; conv => whnf) | (refine eq_ts ?_; conv => whnf) | (refine ne_ts ?_; conv => whnf) | (refine ne_rD ?_; conv => whnf) | (refine eq_vD ?_; conv => whnf) | (refine ne_vD ?_; conv => whnf) | (refine ⟨isi_ok rfl, ?_⟩; conv => whnf) | (apply wMulS.mk; (first | exact mul_l (by decide) (by decide) | exact mul_r (by decide) (by decide) | exact mul_ok (by l_ints) (by l_ints) (by decide)); conv => whnf) | (refine ⟨⟨by decide, by decide, by decide⟩, ?_⟩; conv => whnf) | (refine ⟨⟨by decide, by decide, by omega⟩, ?_⟩; conv => whnf) | (refine ⟨small_sz (Nat.le_of_ble_eq_true rfl), ?_⟩; conv => whnf) | fail))
  have p : (0 : Int) < 2 ^ 60 := by decide
  refine low3 g80 (by omega) (bd40 (by omega) (by omega) |>.mono (by decide)) ?_
  conv => whnf
  refine q _ _ (PlB.low (by omega) ?_ ?_ (bd40 (by omega) (by omega) |>.mono (by decide)))
  all_goals (refine Nat.le_trans (m := 2 ^ 170 * 1) ?_ (Nat.mul_le_mul_left _ (by omega)); refine Nat.le_trans (m := 2 ^ 60) (by omega) (by decide))
def sp_law_size : DSp := fun ds Q X => ∃ (ns : List Int), ds = [.list (ns.map .int)] ∧ ∀ z : Int, 3 ≤ z → z ≤ 10 ^ 9 → Q (.d (.int z))
theorem p_law_size {G : Nat → DSp} (g42 : G 42 = sp_law_cell_at) (g43 : G 43 = sp_law_draw) : FnW G 1 1 m_law_size sp_law_size := by
  intro ds Q X ⟨ns, e0, q⟩
  subst e0
  refine ⟨rfl, ?_⟩
  have hp : (10 : Int) ^ (9 : Int).toNat = 10 ^ 9 := rfl
  conv => whnf
  refine gC g42 ⟨ns, 0, rfl, fun c hc => ?_⟩
  ((conv => whnf); repeat' (first | (refine wIf_tt ?_; conv => whnf) | (refine wIf_ff ?_; conv => whnf) | (refine wIf.mk (fun hif => (have hif := of_decide_eq_true hif; ?_)) (fun hif => (have hif := of_decide_eq_false hif; ?_)) <;> (conv => whnf)) | (refine wIf_not ?_) | (refine ⟨(by decide : (_ : Int) ≠ 0), fun w _ hw => ?_⟩; replace hw := hw (by decide); conv => whnf) | (refine ⟨(by decide : (_ : Int) ≠ 0), div_lit (by decide), fun w _ hw => ?_⟩; replace hw := hw (by decide); conv => whnf) | (refine eq_rD ?_; conv => whnf) | (refine eq_ts ?_; conv => whnf) | (refine ne_ts ?_; conv => whnf) | (refine ne_rD ?_; conv => whnf) | (refine eq_vD ?_; conv => whnf) | (refine ne_vD ?_; conv => whnf) | (refine ⟨isi_ok rfl, ?_⟩; conv => whnf) | (apply wMulS.mk; (first | exact mul_l (by decide) (by decide) | exact mul_r (by decide) (by decide) | exact mul_ok (by l_ints) (by l_ints) (by decide)); conv => whnf) | (refine ⟨⟨by decide, by decide, by decide⟩, ?_⟩; conv => whnf) | (refine ⟨⟨by decide, by decide, by omega⟩, ?_⟩; conv => whnf) | (refine ⟨small_sz (Nat.le_of_ble_eq_true rfl), ?_⟩; conv => whnf) | fail))
  · have h0 : 0 < ns.length := by
      rcases hc with h | h
      · simpa using h
      · subst h; omega
    obtain ⟨x, hx, a1⟩ := atI_maps (f := PyData.int) (xs := ns) (i := 0) (by omega) (by omega)
    rw [a1]
    ((conv => whnf); repeat' (first | (refine wIf_tt ?_; conv => whnf) | (refine wIf_ff ?_; conv => whnf) | (refine wIf.mk (fun hif => (have hif := of_decide_eq_true hif; ?_)) (fun hif => (have hif := of_decide_eq_false hif; ?_)) <;> (conv => whnf)) | (refine wIf_not ?_) | (refine ⟨(by decide : (_ : Int) ≠ 0), fun w _ hw => ?_⟩; replace hw := hw (by decide); conv => whnf) | (refine ⟨(by decide : (_ : Int) ≠ 0), div_lit (by decide), fun w _ hw => ?_⟩; replace hw := hw (by decide); conv => whnf) | (refine eq_rD ?_; conv => whnf) | (refine eq_ts ?_; conv => whnf) | (refine ne_ts ?_; conv => whnf) | (refine ne_rD ?_; conv => whnf) | (refine eq_vD ?_; conv => whnf) | (refine ne_vD ?_; conv => whnf) | (refine ⟨isi_ok rfl, ?_⟩; conv => whnf) | (apply wMulS.mk; (first | exact mul_l (by decide) (by decide) | exact mul_r (by decide) (by decide) | exact mul_ok (by l_ints) (by l_ints) (by decide)); conv => whnf) | (refine ⟨⟨by decide, by decide, by decide⟩, ?_⟩; conv => whnf) | (refine ⟨⟨by decide, by decide, by omega⟩, ?_⟩; conv => whnf) | (refine ⟨small_sz (Nat.le_of_ble_eq_true rfl), ?_⟩; conv => whnf) | fail))
    obtain ⟨z, e1, hz⟩ := pick3 (i := w) (a := 3) (b := 12) (c := 10 ^ (9 : Int).toNat) (by omega) (by omega)
    rw [e1]
    conv => whnf
    exact q z (by omega) (by omega)
  · refine gC g42 ⟨ns, 0, rfl, fun c hc => ?_⟩
    conv => whnf
    refine gC g43 ⟨_, 1, 4, rfl, by decide, by decide, by decide, fun z hz1 hz2 => ?_⟩
    conv => whnf
    obtain ⟨t, e1, hz⟩ := pick4i (i := z) (a := 3) (b := 3) (c := 12) (d := 10 ^ (9 : Int).toNat) hz1 hz2
    rw [e1]
    conv => whnf
    exact q t (by omega) (by omega)
def sp_law_bearings : DSp := fun ds Q X => ∃ (c : Int), ds = [.int c] ∧ ∀ bs : List Vec, (∀ v ∈ bs, VB 10 v) → Q (.d (windD bs))
theorem p_law_bearings {G : Nat → DSp} (g43 : G 43 = sp_law_draw) : FnW G 4 1 m_law_bearings sp_law_bearings := by
  intro ds Q X ⟨c, e0, q⟩
  subst e0
  refine ⟨rfl, ?_⟩
  have dr : ∀ (a k m : Int) (W : R → Prop) {X : Nat → Prop}, (0 ≤ k ∧ k ≤ 1000000 ∧ 0 < m) → (∀ z : Int, 0 ≤ z → z < m → W (.d (.int z))) → G 43 [.int a, .int k, .int m] W X := fun a k m W _ hh h => gC g43 ⟨a, k, m, rfl, hh.1, hh.2.1, hh.2.2, h⟩
  ((conv => whnf); repeat' (first | (refine wIf_tt ?_; conv => whnf) | (refine wIf_ff ?_; conv => whnf) | (refine wIf.mk (fun hif => (have hif := of_decide_eq_true hif; ?_)) (fun hif => (have hif := of_decide_eq_false hif; ?_)) <;> (conv => whnf)) | (refine wIf_not ?_) | (refine ⟨(by decide : (_ : Int) ≠ 0), fun w _ hw => ?_⟩; replace hw := hw (by decide); conv => whnf) | (refine ⟨(by decide : (_ : Int) ≠ 0), div_lit (by decide), fun w _ hw => ?_⟩; replace hw := hw (by decide); conv => whnf) | (refine eq_rD ?_; conv => whnf) | (refine eq_ts ?_; conv => whnf) | (refine ne_ts ?_; conv => whnf) | (refine ne_rD ?_; conv => whnf) | (refine eq_vD ?_; conv => whnf) | (refine ne_vD ?_; conv => whnf) | (refine ⟨isi_ok rfl, ?_⟩; conv => whnf) | (apply wMulS.mk; (first | exact mul_l (by decide) (by decide) | exact mul_r (by decide) (by decide) | exact mul_ok (by l_ints) (by l_ints) (by decide)); conv => whnf) | (refine ⟨⟨by decide, by decide, by decide⟩, ?_⟩; conv => whnf) | (refine ⟨⟨by decide, by decide, by omega⟩, ?_⟩; conv => whnf) | (refine ⟨small_sz (Nat.le_of_ble_eq_true rfl), ?_⟩; conv => whnf) | fail))
  refine dr _ _ _ _ (by decide) fun n hn1 hn2 => ?_
  conv => whnf
  refine ⟨Int.le_trans (Int.le_of_lt hn2) (by decide), by omega, ?_⟩
  conv => whnf
  refine ⟨rfl, ?_⟩
  refine rng_ind (fun i ρ => i ≤ n.toNat ∧ ∃ (bs : List Vec) (x y : Option DL.R), (bs.length ≤ i ∧ ∀ v ∈ bs, VB 10 v) ∧ ρ = [some (.d (.int c)), some (.l (bs.map vD) true), x, y]) _ ?_ ?_ _ ⟨by omega, [], none, none, ⟨by simp, by simp⟩, rfl⟩
  · rintro ρ ⟨_, bs, x, y, ⟨h1, h2⟩, rfl⟩
    conv => whnf
    exact q bs h2
  rintro i ρ hi ⟨_, bs, x, y, ⟨h1, h2⟩, rfl⟩ nx hnx
  have hi : i < n.toNat := hi
  ((conv => whnf); repeat' (first | (refine wIf_tt ?_; conv => whnf) | (refine wIf_ff ?_; conv => whnf) | (refine wIf.mk (fun hif => (have hif := of_decide_eq_true hif; ?_)) (fun hif => (have hif := of_decide_eq_false hif; ?_)) <;> (conv => whnf)) | (refine wIf_not ?_) | (refine ⟨(by decide : (_ : Int) ≠ 0), fun w _ hw => ?_⟩; replace hw := hw (by decide); conv => whnf) | (refine ⟨(by decide : (_ : Int) ≠ 0), div_lit (by decide), fun w _ hw => ?_⟩; replace hw := hw (by decide); conv => whnf) | (refine eq_rD ?_; conv => whnf) | (refine eq_ts ?_; conv => whnf) | (refine ne_ts ?_; conv => whnf) | (refine ne_rD ?_; conv => whnf) | (refine eq_vD ?_; conv => whnf) | (refine ne_vD ?_; conv => whnf) | (refine ⟨isi_ok rfl, ?_⟩; conv => whnf) | (apply wMulS.mk; (first | exact mul_l (by decide) (by decide) | exact mul_r (by decide) (by decide) | exact mul_ok (by l_ints) (by l_ints) (by decide)); conv => whnf) | (refine ⟨⟨by decide, by decide, by decide⟩, ?_⟩; conv => whnf) | (refine ⟨⟨by decide, by decide, by omega⟩, ?_⟩; conv => whnf) | (refine ⟨small_sz (Nat.le_of_ble_eq_true rfl), ?_⟩; conv => whnf) | fail))
  refine dr _ (74 + 2 * (i : Int)) 9 _ (by omega) fun z1 hz11 hz12 => ?_
  ((conv => whnf); repeat' (first | (refine wIf_tt ?_; conv => whnf) | (refine wIf_ff ?_; conv => whnf) | (refine wIf.mk (fun hif => (have hif := of_decide_eq_true hif; ?_)) (fun hif => (have hif := of_decide_eq_false hif; ?_)) <;> (conv => whnf)) | (refine wIf_not ?_) | (refine ⟨(by decide : (_ : Int) ≠ 0), fun w _ hw => ?_⟩; replace hw := hw (by decide); conv => whnf) | (refine ⟨(by decide : (_ : Int) ≠ 0), div_lit (by decide), fun w _ hw => ?_⟩; replace hw := hw (by decide); conv => whnf) | (refine eq_rD ?_; conv => whnf) | (refine eq_ts ?_; conv => whnf) | (refine ne_ts ?_; conv => whnf) | (refine ne_rD ?_; conv => whnf) | (refine eq_vD ?_; conv => whnf) | (refine ne_vD ?_; conv => whnf) | (refine ⟨isi_ok rfl, ?_⟩; conv => whnf) | (apply wMulS.mk; (first | exact mul_l (by decide) (by decide) | exact mul_r (by decide) (by decide) | exact mul_ok (by l_ints) (by l_ints) (by decide)); conv => whnf) | (refine ⟨⟨by decide, by decide, by decide⟩, ?_⟩; conv => whnf) | (refine ⟨⟨by decide, by decide, by omega⟩, ?_⟩; conv => whnf) | (refine ⟨small_sz (Nat.le_of_ble_eq_true rfl), ?_⟩; conv => whnf) | fail))
  refine dr _ (75 + 2 * (i : Int)) 9 _ (by omega) fun z2 hz21 hz22 => ?_
  ((conv => whnf); repeat' (first | (refine wIf_tt ?_; conv => whnf) | (refine wIf_ff ?_; conv => whnf) | (refine wIf.mk (fun hif => (have hif := of_decide_eq_true hif; ?_)) (fun hif => (have hif := of_decide_eq_false hif; ?_)) <;> (conv => whnf)) | (refine wIf_not ?_) | (refine ⟨(by decide : (_ : Int) ≠ 0), fun w _ hw => ?_⟩; replace hw := hw (by decide); conv => whnf) | (refine ⟨(by decide : (_ : Int) ≠ 0), div_lit (by decide), fun w _ hw => ?_⟩; replace hw := hw (by decide); conv => whnf) | (refine eq_rD ?_; conv => whnf) | (refine eq_ts ?_; conv => whnf) | (refine ne_ts ?_; conv => whnf) | (refine ne_rD ?_; conv => whnf) | (refine eq_vD ?_; conv => whnf) | (refine ne_vD ?_; conv => whnf) | (refine ⟨isi_ok rfl, ?_⟩; conv => whnf) | (apply wMulS.mk; (first | exact mul_l (by decide) (by decide) | exact mul_r (by decide) (by decide) | exact mul_ok (by l_ints) (by l_ints) (by decide)); conv => whnf) | (refine ⟨⟨by decide, by decide, by decide⟩, ?_⟩; conv => whnf) | (refine ⟨⟨by decide, by decide, by omega⟩, ?_⟩; conv => whnf) | (refine ⟨small_sz (Nat.le_of_ble_eq_true rfl), ?_⟩; conv => whnf) | fail))
  · exact hnx _ ⟨by omega, bs, _, _, ⟨by omega, h2⟩, rfl⟩
  · refine ⟨by simp; exact small_lt (by omega), ?_⟩
    conv => whnf
    refine hnx _ ⟨by omega, bs ++ [(z1 - 4, z2 - 4)], _, _, ⟨by simp; omega, fun u hu => ?_⟩, by rw [List.map_append]; rfl⟩
    rcases List.mem_append.mp hu with h | h
    · exact h2 u h
    · rw [List.mem_singleton.mp h]; exact ⟨bd_of (by omega) (by omega), bd_of (by omega) (by omega)⟩
def sp_law_goal : DSp := fun ds Q X => ∃ (ws : List Wt) (c f : Int), ds = [watD ws, .int c, .int f] ∧ ws.length ≤ 12 ∧ (∀ w ∈ ws, WtOk 140 12 w) ∧ 0 ≤ f ∧ f ≤ 10 ^ 9 ∧ ∀ e n, PlB (2 ^ 170) 3200 e n → Q (.d (PD e n))
theorem p_law_goal {G : Nat → DSp} (g92 : G 92 = sp_law_free_place) (g91 : G 91 = sp_law_end_2) (g89 : G 89 = sp_law_course) (g43 : G 43 = sp_law_draw) (g90 : G 90 = sp_law_add) (g80 : G 80 = sp_law_lowest_2) : FnW G 7 3 m_law_goal sp_law_goal := by
  intro ds Q X ⟨ws, c, f, e0, hl, hws, h1, h2, q⟩
  subst e0
  refine ⟨rfl, ?_⟩
  have dr : ∀ (a k m : Int) (W : R → Prop) {X : Nat → Prop}, (0 ≤ k ∧ k ≤ 1000000 ∧ 0 < m) → (∀ z : Int, 0 ≤ z → z < m → W (.d (.int z))) → G 43 [.int a, .int k, .int m] W X := fun a k m W _ hh h => gC g43 ⟨a, k, m, rfl, hh.1, hh.2.1, hh.2.2, h⟩
  ((conv => whnf); repeat' (first | (refine wIf_tt ?_; conv => whnf) | (refine wIf_ff ?_; conv => whnf) | (refine wIf.mk (fun hif => (have hif := of_decide_eq_true hif; ?_)) (fun hif => (have hif := of_decide_eq_false hif; ?_)) <;> (conv => whnf)) | (refine wIf_not ?_) | (refine ⟨(by decide : (_ : Int) ≠ 0), fun w _ hw => ?_⟩; replace hw := hw (by decide); conv => whnf) | (refine ⟨(by decide : (_ : Int) ≠ 0), div_lit (by decide), fun w _ hw => ?_⟩; replace hw := hw (by decide); conv => whnf) | (refine eq_rD ?_; conv => whnf) | (refine eq_ts ?_; conv => whnf) | (refine ne_ts ?_; conv => whnf) | (refine ne_rD ?_; conv => whnf) | (refine eq_vD ?_; conv => whnf) | (refine ne_vD ?_; conv => whnf) | (refine ⟨isi_ok rfl, ?_⟩; conv => whnf) | (apply wMulS.mk; (first | exact mul_l (by decide) (by decide) | exact mul_r (by decide) (by decide) | exact mul_ok (by l_ints) (by l_ints) (by decide)); conv => whnf) | (refine ⟨⟨by decide, by decide, by decide⟩, ?_⟩; conv => whnf) | (refine ⟨⟨by decide, by decide, by omega⟩, ?_⟩; conv => whnf) | (refine ⟨small_sz (Nat.le_of_ble_eq_true rfl), ?_⟩; conv => whnf) | fail))
  · exact gC g92 ⟨_, f, rfl, h1, h2, q⟩
  refine gC g89 ⟨ws, c, rfl, hl, hws, fun cr hcr => ?_⟩
  conv => whnf
  refine gC g91 ⟨ws, cr, rfl, hcr, fun e n hp => ?_⟩
  conv => whnf
  refine dr c 61 6 _ (by decide) fun z1 hz11 hz12 => ?_
  ((conv => whnf); repeat' (first | (refine wIf_tt ?_; conv => whnf) | (refine wIf_ff ?_; conv => whnf) | (refine wIf.mk (fun hif => (have hif := of_decide_eq_true hif; ?_)) (fun hif => (have hif := of_decide_eq_false hif; ?_)) <;> (conv => whnf)) | (refine wIf_not ?_) | (refine ⟨(by decide : (_ : Int) ≠ 0), fun w _ hw => ?_⟩; replace hw := hw (by decide); conv => whnf) | (refine ⟨(by decide : (_ : Int) ≠ 0), div_lit (by decide), fun w _ hw => ?_⟩; replace hw := hw (by decide); conv => whnf) | (refine eq_rD ?_; conv => whnf) | (refine eq_ts ?_; conv => whnf) | (refine ne_ts ?_; conv => whnf) | (refine ne_rD ?_; conv => whnf) | (refine eq_vD ?_; conv => whnf) | (refine ne_vD ?_; conv => whnf) | (refine ⟨isi_ok rfl, ?_⟩; conv => whnf) | (apply wMulS.mk; (first | exact mul_l (by decide) (by decide) | exact mul_r (by decide) (by decide) | exact mul_ok (by l_ints) (by l_ints) (by decide)); conv => whnf) | (refine ⟨⟨by decide, by decide, by decide⟩, ?_⟩; conv => whnf) | (refine ⟨⟨by decide, by decide, by omega⟩, ?_⟩; conv => whnf) | (refine ⟨small_sz (Nat.le_of_ble_eq_true rfl), ?_⟩; conv => whnf) | fail))
  · exact q e n (hp.mono (Nat.pow_le_pow_right (by decide) (by decide)) (by decide))
  obtain ⟨sz, e1, hs⟩ := pick3 (i := z1 - 3) (a := 1) (b := 1 + f) (c := 40 * (1 + f)) (by omega) (by omega)
  have hs2 : 0 ≤ sz ∧ sz ≤ 10 ^ 12 := by omega
  rw [e1]
  ((conv => whnf); repeat' (first | (refine wIf_tt ?_; conv => whnf) | (refine wIf_ff ?_; conv => whnf) | (refine wIf.mk (fun hif => (have hif := of_decide_eq_true hif; ?_)) (fun hif => (have hif := of_decide_eq_false hif; ?_)) <;> (conv => whnf)) | (refine wIf_not ?_) | (refine ⟨(by decide : (_ : Int) ≠ 0), fun w _ hw => ?_⟩; replace hw := hw (by decide); conv => whnf) | (refine ⟨(by decide : (_ : Int) ≠ 0), div_lit (by decide), fun w _ hw => ?_⟩; replace hw := hw (by decide); conv => whnf) | (refine eq_rD ?_; conv => whnf) | (refine eq_ts ?_; conv => whnf) | (refine ne_ts ?_; conv => whnf) | (refine ne_rD ?_; conv => whnf) | (refine eq_vD ?_; conv => whnf) | (refine ne_vD ?_; conv => whnf) | (refine ⟨isi_ok rfl, ?_⟩; conv => whnf) | (apply wMulS.mk; (first | exact mul_l (by decide) (by decide) | exact mul_r (by decide) (by decide) | exact mul_ok (by l_ints) (by l_ints) (by decide)); conv => whnf) | (refine ⟨⟨by decide, by decide, by decide⟩, ?_⟩; conv => whnf) | (refine ⟨⟨by decide, by decide, by omega⟩, ?_⟩; conv => whnf) | (refine ⟨small_sz (Nat.le_of_ble_eq_true rfl), ?_⟩; conv => whnf) | fail))
  refine dr c 62 (2 * sz + 1) _ (by omega) fun z2 hz21 hz22 => ?_
  ((conv => whnf); repeat' (first | (refine wIf_tt ?_; conv => whnf) | (refine wIf_ff ?_; conv => whnf) | (refine wIf.mk (fun hif => (have hif := of_decide_eq_true hif; ?_)) (fun hif => (have hif := of_decide_eq_false hif; ?_)) <;> (conv => whnf)) | (refine wIf_not ?_) | (refine ⟨(by decide : (_ : Int) ≠ 0), fun w _ hw => ?_⟩; replace hw := hw (by decide); conv => whnf) | (refine ⟨(by decide : (_ : Int) ≠ 0), div_lit (by decide), fun w _ hw => ?_⟩; replace hw := hw (by decide); conv => whnf) | (refine eq_rD ?_; conv => whnf) | (refine eq_ts ?_; conv => whnf) | (refine ne_ts ?_; conv => whnf) | (refine ne_rD ?_; conv => whnf) | (refine eq_vD ?_; conv => whnf) | (refine ne_vD ?_; conv => whnf) | (refine ⟨isi_ok rfl, ?_⟩; conv => whnf) | (apply wMulS.mk; (first | exact mul_l (by decide) (by decide) | exact mul_r (by decide) (by decide) | exact mul_ok (by l_ints) (by l_ints) (by decide)); conv => whnf) | (refine ⟨⟨by decide, by decide, by decide⟩, ?_⟩; conv => whnf) | (refine ⟨⟨by decide, by decide, by omega⟩, ?_⟩; conv => whnf) | (refine ⟨small_sz (Nat.le_of_ble_eq_true rfl), ?_⟩; conv => whnf) | fail))
  refine dr c 63 (2 * sz + 1) _ (by omega) fun z3 hz31 hz32 => ?_
  ((conv => whnf); repeat' (first | (refine wIf_tt ?_; conv => whnf) | (refine wIf_ff ?_; conv => whnf) | (refine wIf.mk (fun hif => (have hif := of_decide_eq_true hif; ?_)) (fun hif => (have hif := of_decide_eq_false hif; ?_)) <;> (conv => whnf)) | (refine wIf_not ?_) | (refine ⟨(by decide : (_ : Int) ≠ 0), fun w _ hw => ?_⟩; replace hw := hw (by decide); conv => whnf) | (refine ⟨(by decide : (_ : Int) ≠ 0), div_lit (by decide), fun w _ hw => ?_⟩; replace hw := hw (by decide); conv => whnf) | (refine eq_rD ?_; conv => whnf) | (refine eq_ts ?_; conv => whnf) | (refine ne_ts ?_; conv => whnf) | (refine ne_rD ?_; conv => whnf) | (refine eq_vD ?_; conv => whnf) | (refine ne_vD ?_; conv => whnf) | (refine ⟨isi_ok rfl, ?_⟩; conv => whnf) | (apply wMulS.mk; (first | exact mul_l (by decide) (by decide) | exact mul_r (by decide) (by decide) | exact mul_ok (by l_ints) (by l_ints) (by decide)); conv => whnf) | (refine ⟨⟨by decide, by decide, by decide⟩, ?_⟩; conv => whnf) | (refine ⟨⟨by decide, by decide, by omega⟩, ?_⟩; conv => whnf) | (refine ⟨small_sz (Nat.le_of_ble_eq_true rfl), ?_⟩; conv => whnf) | fail))
  refine dr c 64 3 _ (by decide) fun z4 hz41 hz42 => ?_
  ((conv => whnf); repeat' (first | (refine wIf_tt ?_; conv => whnf) | (refine wIf_ff ?_; conv => whnf) | (refine wIf.mk (fun hif => (have hif := of_decide_eq_true hif; ?_)) (fun hif => (have hif := of_decide_eq_false hif; ?_)) <;> (conv => whnf)) | (refine wIf_not ?_) | (refine ⟨(by decide : (_ : Int) ≠ 0), fun w _ hw => ?_⟩; replace hw := hw (by decide); conv => whnf) | (refine ⟨(by decide : (_ : Int) ≠ 0), div_lit (by decide), fun w _ hw => ?_⟩; replace hw := hw (by decide); conv => whnf) | (refine eq_rD ?_; conv => whnf) | (refine eq_ts ?_; conv => whnf) | (refine ne_ts ?_; conv => whnf) | (refine ne_rD ?_; conv => whnf) | (refine eq_vD ?_; conv => whnf) | (refine ne_vD ?_; conv => whnf) | (refine ⟨isi_ok rfl, ?_⟩; conv => whnf) | (apply wMulS.mk; (first | exact mul_l (by decide) (by decide) | exact mul_r (by decide) (by decide) | exact mul_ok (by l_ints) (by l_ints) (by decide)); conv => whnf) | (refine ⟨⟨by decide, by decide, by decide⟩, ?_⟩; conv => whnf) | (refine ⟨⟨by decide, by decide, by omega⟩, ?_⟩; conv => whnf) | (refine ⟨small_sz (Nat.le_of_ble_eq_true rfl), ?_⟩; conv => whnf) | fail))
  refine low2 g80 (by omega) (bd40 (by omega) (by omega) |>.mono (by decide)) ?_
  conv => whnf
  have bv : VB 140 (z2 - sz, z3 - sz) := ⟨bd64 (by omega) (by omega) |>.mono (by decide), bd64 (by omega) (by omega) |>.mono (by decide)⟩
  have hsb : ShB 1 10 (Rat.divInt 1 (1 + z4)) := ShB.low (by omega) (by omega) (bd_of (by omega) (by omega))
  refine gC g90 ⟨e, n, _, _, 2 ^ 160, 3100, 1, 10, rfl, hp, bv, hsb, Nat.pow_lt_pow_right (by decide) (by decide), by decide, by decide, fun e' n' hp' => ?_⟩
  conv => whnf
  exact q e' n' (hp'.mono (by decide) (by decide))
end DL
end
section
namespace DL
def m_bounds_by : Ss := (.cons (.set 4 (.call 9 (.cons (.call 26 (.cons (.v 3) (.cons (.v 2) .nil))) (.cons (.tup (.cons (.call 41 (.cons (.sl (.v 0) .nil (.cons (.v 1) .nil)) (.cons (.v 3) .nil))) (.cons (.int 1) .nil))) .nil)))) (.cons (.set 5 (.bin .Add (.call 34 (.cons (.ix (.ix (.v 0) (.v 1)) (.int 0)) (.cons (.v 3) .nil))) (.call 33 (.cons (.v 3) (.cons (.ix (.ix (.v 0) (.v 1)) (.int 1)) .nil))))) (.cons (.ifs (.cmp .Eq (.v 5) (.int 0)) (.cons (.ifs (.call 15 (.cons (.gl 4) (.cons (.v 4) .nil))) (.cons (.ret .non) .nil) .nil) (.cons (.ret (.tup (.cons (.gl 4) (.cons (.gl 3) .nil)))) .nil)) .nil) (.cons (.set 6 (.call 11 (.cons (.v 4) (.cons (.tup (.cons (.v 5) (.cons (.int 1) .nil))) .nil)))) (.cons (.ifs (.cmp .Gt (.v 5) (.int 0)) (.cons (.ret (.tup (.cons (.v 6) (.cons (.gl 3) .nil)))) .nil) .nil) (.cons (.ret (.tup (.cons (.gl 4) (.cons (.v 6) .nil)))) .nil))))))
end DL
end
section
namespace DL
def m_barred_from : Ss := (.cons (.set 4 (.gl 4)) (.cons (.set 5 (.gl 3)) (.cons (.for_ (.nm 6) (.ex (.v 3)) (.cons (.set 7 (.call 78 (.cons (.v 0) (.cons (.v 1) (.cons (.v 2) (.cons (.v 6) .nil)))))) (.cons (.ifs (.isN (.v 7)) (.cons (.ret .non) .nil) .nil) (.cons (.ifs (.call 15 (.cons (.v 4) (.cons (.ix (.v 7) (.int 0)) .nil))) (.cons (.set 4 (.ix (.v 7) (.int 0))) .nil) .nil) (.cons (.ifs (.call 15 (.cons (.ix (.v 7) (.int 1)) (.cons (.v 5) .nil))) (.cons (.set 5 (.ix (.v 7) (.int 1))) .nil) .nil) .nil))))) (.cons (.ifs (.call 15 (.cons (.v 5) (.cons (.v 4) .nil))) (.cons (.ret .non) .nil) .nil) (.cons (.ret (.tup (.cons (.v 4) (.cons (.v 5) .nil)))) .nil)))))
end DL
end
section
namespace DL
def m_law_left : Ss := (.cons (.set 4 (.tup (.cons (.int 0) (.cons (.int 1) .nil)))) (.cons (.set 5 (.tup (.cons (.int 1) (.cons (.int 1) .nil)))) (.cons (.for_ (.nm 6) (.ex (.v 3)) (.cons (.set 7 (.bin .Sub (.call 48 (.cons (.v 6) (.cons (.v 2) .nil))) (.bin .Mult (.call 49 (.cons (.sl (.v 0) .nil (.cons (.v 1) .nil)) (.cons (.v 6) .nil))) (.ix (.v 2) (.int 2))))) (.cons (.set 8 (.call 49 (.cons (.sl (.v 0) (.cons (.v 1) .nil) (.cons (.bin .Add (.v 1) (.int 1)) .nil)) (.cons (.v 6) .nil)))) (.cons (.ifs (.and (.cmp .Eq (.v 8) (.int 0)) (.cmp .Gt (.v 7) (.int 0))) (.cons (.ret .non) .nil) .nil) (.cons (.ifs (.and (.cmp .Gt (.v 8) (.int 0)) (.call 95 (.cons (.v 4) (.cons (.tup (.cons (.v 7) (.cons (.bin .Mult (.ix (.v 2) (.int 2)) (.v 8)) .nil))) .nil)))) (.cons (.set 4 (.call 80 (.cons (.lst (.cons (.v 7) (.cons (.bin .Mult (.ix (.v 2) (.int 2)) (.v 8)) .nil))) .nil))) .nil) .nil) (.cons (.ifs (.and (.cmp .Lt (.v 8) (.int 0)) (.call 95 (.cons (.tup (.cons (.neg (.v 7)) (.cons (.bin .Mult (.neg (.ix (.v 2) (.int 2))) (.v 8)) .nil))) (.cons (.v 5) .nil)))) (.cons (.set 5 (.call 80 (.cons (.lst (.cons (.neg (.v 7)) (.cons (.bin .Mult (.neg (.ix (.v 2) (.int 2))) (.v 8)) .nil))) .nil))) .nil) .nil) .nil)))))) (.cons (.ifs (.call 95 (.cons (.v 5) (.cons (.v 4) .nil))) (.cons (.ret .non) .nil) .nil) (.cons (.ret (.tup (.cons (.v 4) (.cons (.v 5) .nil)))) .nil)))))
end DL
end
section
set_option maxRecDepth 100000
set_option maxHeartbeats 4000000
set_option exponentiation.threshold 100000
namespace DL
open PySem L2
local macro_rules | `(tactic| l_ints) => `(tactic| first | (assumption) | (apply Bd.neg; l_ints) | (apply Bd.mul <;> l_ints) | (exact bd40 (by omega) (by omega)) | (apply Bd.add <;> l_ints) | (apply Bd.sub <;> l_ints) | (exact bd130 (by omega) (by omega)) | (exact bd210 (by omega) (by omega)) | (exact bd_self _) | fail)
theorem rbI {k : Nat} {x : Int} (h : Bd k x) (hk : 1 ≤ k) : RB k (x : Rat) := ⟨h, Bd.mono (show Bd 1 ((1 : Nat) : Int) by decide) hk⟩
theorem before_iff {l : Rat} {L D : Int} (hD : 0 < D) : l.num * D < L * l.den ↔ l < Rat.divInt L D := by
  have h := (Rat.divInt_eq_divInt_iff (den_ne (Rat.divInt L D)) (show D ≠ 0 by omega)).mp (Rat.num_divInt_den (Rat.divInt L D))
  have hq : (0 : Int) < (Rat.divInt L D).den := by have := (Rat.divInt L D).den_pos; omega
  rw [Rat.lt_iff]
  generalize Rat.divInt L D = q at *
  have e1 : l.num * D * q.den = l.num * q.den * D := by grind
  have e2 : L * l.den * q.den = q.num * l.den * D := by grind
  constructor
  · intro g
    have g2 := Int.mul_lt_mul_of_pos_right g hq
    rw [e1, e2] at g2
    exact Int.lt_of_mul_lt_mul_right g2 (by omega)
  · intro g
    have g2 := Int.mul_lt_mul_of_pos_right g hD
    rw [← e1, ← e2] at g2
    exact Int.lt_of_mul_lt_mul_right g2 (by omega)
theorem before_iff2 {l : Rat} {L D : Int} (hD : 0 < D) : L * l.den < l.num * D ↔ Rat.divInt L D < l := by
  have h := (Rat.divInt_eq_divInt_iff (den_ne (Rat.divInt L D)) (show D ≠ 0 by omega)).mp (Rat.num_divInt_den (Rat.divInt L D))
  have hq : (0 : Int) < (Rat.divInt L D).den := by have := (Rat.divInt L D).den_pos; omega
  rw [Rat.lt_iff]
  generalize Rat.divInt L D = q at *
  have e1 : l.num * D * q.den = l.num * q.den * D := by grind
  have e2 : L * l.den * q.den = q.num * l.den * D := by grind
  constructor
  · intro g
    have g2 := Int.mul_lt_mul_of_pos_right g hq
    rw [e1, e2] at g2
    exact Int.lt_of_mul_lt_mul_right g2 (by omega)
  · intro g
    have g2 := Int.mul_lt_mul_of_pos_right g hD
    rw [← e1, ← e2] at g2
    exact Int.lt_of_mul_lt_mul_right g2 (by omega)
theorem int_divInt (x : Int) : (x : Rat) = Rat.divInt x 1 := by
  have := Rat.num_divInt_den (x : Rat)
  simpa using this.symm
theorem lk_div (L z d : Int) (hd : d ≠ 0) : Rat.divInt L z / (d : Rat) = Rat.divInt L (z * d) := by
  rw [Rat.div_def, int_divInt d, Rat.inv_divInt, Rat.divInt_mul_divInt, Int.mul_one]
noncomputable def LkI (ws : List Wt) (e n : Rat) (b : Vec) : Int := b.1 * (plc e n).1 + b.2 * (plc e n).2.1 - leads b ws * (plc e n).2.2
noncomputable def lk (ws : List Wt) (e n : Rat) (b : Vec) : Rat := Rat.divInt (LkI ws e n b) (plc e n).2.2
theorem lk_eq (ws : List Wt) (e n : Rat) (b : Vec) : (b.1 : Rat) * e + (b.2 : Rat) * n - (leads b ws : Rat) = lk ws e n b := by
  have hz := plc_pos e n
  have hz0 : (plc e n).2.2 ≠ 0 := by omega
  have h1 : (leads b ws : Rat) = Rat.divInt (leads b ws * (plc e n).2.2) (plc e n).2.2 := by
    have := Rat.divInt_mul_right (n := leads b ws) (d := 1) hz0
    rw [Int.one_mul] at this
    rw [this, ← int_divInt]
  unfold lk LkI
  rw [Int.sub_eq_add_neg, divInt_add_same _ _ _ hz0, along_eq, h1, Rat.sub_eq_add_neg, Rat.neg_divInt]
def ansD : Option (Rat × Rat) → D
  | none => .none
  | some (l, g) => .tuple [rD l, rD g]
open Classical in
noncomputable def res (ws : List Wt) (w : Wt) (e n : Rat) : List Vec → Rat → Rat → Option (Rat × Rat)
  | [], l, g => if g < l then none else some (l, g)
  | b :: bs, l, g => if lead b w = 0 ∧ 0 < lk ws e n b then none else
    res ws w e n bs (if 0 < lead b w ∧ l < lk ws e n b / (lead b w : Rat) then lk ws e n b / (lead b w : Rat) else l) (if lead b w < 0 ∧ lk ws e n b / (lead b w : Rat) < g then lk ws e n b / (lead b w : Rat) else g)
theorem res_nil (ws : List Wt) (w : Wt) (e n l g : Rat) : res ws w e n [] l g = if g < l then none else some (l, g) := by unfold res; congr
theorem res_cons (ws : List Wt) (w : Wt) (e n l g : Rat) (b : Vec) (bs : List Vec) : res ws w e n (b :: bs) l g = if lead b w = 0 ∧ 0 < lk ws e n b then none else
    res ws w e n bs (if 0 < lead b w ∧ l < lk ws e n b / (lead b w : Rat) then lk ws e n b / (lead b w : Rat) else l) (if lead b w < 0 ∧ lk ws e n b / (lead b w : Rat) < g then lk ws e n b / (lead b w : Rat) else g) := by
  rw [res]
theorem mx_bd {k m : Nat} {vs : List Vec} {b : Vec} (hn : vs ≠ []) (hv : ∀ v ∈ vs, VB k v) (hb : VB m b) : Bd (k + m + 1) (mx vs b) := by
  obtain ⟨f, hf⟩ := IsFar.ex b hn
  rw [← mx_eq hf]
  obtain ⟨v, h1, h2⟩ := hf.mem
  rw [← h2]
  unfold dot
  have := hv v h1
  exact ((this.1.mul hb.1).add (this.2.mul hb.2)).mono (by omega)
theorem lead_bd {w : Wt} {b : Vec} (o : WtOk 140 12 w) (hb : VB 10 b) : Bd 160 (lead b w) := by
  unfold lead dot
  exact ((mx_bd o.ne o.vb hb).add ((hb.1.mul o.st.1).add (hb.2.mul o.st.2))).mono (by decide)
theorem leads_le {b : Vec} (hb : VB 10 b) (ws : List Wt) (h : ∀ w ∈ ws, WtOk 140 12 w) : (leads b ws).natAbs ≤ ws.length * 2 ^ 160 := by
  induction ws with
  | nil => simp [leads]
  | cons w ws ih =>
    have h1 := ih fun u hu => h u (List.mem_cons_of_mem _ hu)
    have h2 := Nat.le_of_lt (lead_bd (h w List.mem_cons_self) hb)
    have : leads b (w :: ws) = lead b w + leads b ws := by unfold leads; rw [List.map_cons, List.sum_cons]
    rw [this, List.length_cons, Nat.add_mul, Nat.one_mul, Nat.add_comm]
    exact Nat.le_trans (Int.natAbs_add_le _ _) (Nat.add_le_add h2 h1)
theorem leads_bd {b : Vec} (hb : VB 10 b) {ws : List Wt} (hl : ws.length ≤ 12) (h : ∀ w ∈ ws, WtOk 140 12 w) : Bd 170 (leads b ws) := by
  refine Nat.lt_of_le_of_lt (leads_le hb ws h) (Nat.lt_of_le_of_lt (Nat.mul_le_mul_right _ hl) (by decide))
theorem cut_tk {α : Type} {f : α → D} (xs : List α) (j : Nat) : cutD (xs.map f) none (some (j : Int)) = (xs.take j).map f := by
  rw [List.map_take]
  exact cut_to _ j
def bndD : Option (Rat × Rat) → D
  | none => .none
  | some (l, g) => .tuple [rD l, rD g]
noncomputable def bnd (ws : List Wt) (w : Wt) (e n : Rat) (b : Vec) (W : R → Prop) : Prop :=
  (lead b w = 0 → 0 < lk ws e n b → W (.d .none)) ∧ (lead b w = 0 → ¬ 0 < lk ws e n b → W (.d (.tuple [rD 0, rD 1]))) ∧
  (0 < lead b w → W (.d (.tuple [rD (lk ws e n b / (lead b w : Rat)), rD 1]))) ∧ (lead b w < 0 → W (.d (.tuple [rD 0, rD (lk ws e n b / (lead b w : Rat))])))
def sp_bounds_by : DSp := fun ds Q X => ∃ (ws : List Wt) (i : Nat) (w : Wt) (e n : Rat) (b : Vec), ds = [watD ws, .int i, PD e n, vD b] ∧ ws.length ≤ 12 ∧ (∀ w ∈ ws, WtOk 140 12 w) ∧ ws[i]? = some w ∧ PB 3400 e n ∧ VB 10 b ∧ bnd (ws.take i) w e n b Q
theorem p_bounds_by {G : Nat → DSp} (g9 : G 9 = sp_taken) (g26 : G 26 = sp_along) (g41 : G 41 = sp_farthest_by) (g34 : G 34 = sp_farthest) (g33 : G 33 = sp_dot_of) (g15 : G 15 = sp_is_before) (g11 : G 11 = sp_divided) : FnW G 7 4 m_bounds_by sp_bounds_by := by
  intro ds Q X ⟨ws, i, w, e, n, b, e0, hl, hws, hwi, hp, hb, q1, q2, q3, q4⟩
  subst e0
  refine ⟨rfl, ?_⟩
  have ow := hws w (List.mem_of_getElem? hwi)
  have a1 := atI_get (f := wtD) hwi
  have htk : ∀ u ∈ ws.take i, WtOk 140 12 u := fun u hu => hws u (List.mem_of_mem_take hu)
  have lb := leads_bd hb (ws := ws.take i) (by rw [List.length_take]; omega) htk
  have ldb := lead_bd ow hb
  have rl : RB 170 (leads b (ws.take i) : Rat) := rbI lb (by decide)
  have ra : RB 3412 ((b.1 : Rat) * e + (b.2 : Rat) * n) := by
    rw [← along_eq]
    exact RB.divInt (((hb.1.mul hp.1).add (hb.2.mul hp.2.1)).mono (by decide)) (hp.2.2.mono (by decide)) (by have := plc_pos e n; omega)
  have rk : RB 3583 (lk (ws.take i) e n b) := by rw [← lk_eq]; exact ra.sub rl
  conv => whnf
  refine gC g26 ⟨b.1, b.2, e, n, 3400, 10, rfl, hp, hb.1, hb.2, by decide, ?_⟩
  conv => whnf
  rw [cut_tk]
  refine gC g41 ⟨ws.take i, b, 140, 10, 12, rfl, htk, hb, by decide, ?_⟩
  ((conv => whnf); repeat' (first | (refine wIf_tt ?_; conv => whnf) | (refine wIf_ff ?_; conv => whnf) | (refine wIf.mk (fun hif => (have hif := of_decide_eq_true hif; ?_)) (fun hif => (have hif := of_decide_eq_false hif; ?_)) <;> (conv => whnf)) | (refine wIf_not ?_) | (refine ⟨(by decide : (_ : Int) ≠ 0), fun w _ hw => ?_⟩; replace hw := hw (by decide); conv => whnf) | (refine ⟨(by decide : (_ : Int) ≠ 0), div_lit (by decide), fun w _ hw => ?_⟩; replace hw := hw (by decide); conv => whnf) | (refine eq_rD ?_; conv => whnf) | (refine eq_ts ?_; conv => whnf) | (refine ne_ts ?_; conv => whnf) | (refine ne_rD ?_; conv => whnf) | (refine eq_vD ?_; conv => whnf) | (refine ne_vD ?_; conv => whnf) | (refine ⟨isi_ok rfl, ?_⟩; conv => whnf) | (apply wMulS.mk; (first | exact mul_l (by decide) (by decide) | exact mul_r (by decide) (by decide) | exact mul_ok (by l_ints) (by l_ints) (by decide)); conv => whnf) | (refine ⟨⟨by decide, by decide, by decide⟩, ?_⟩; conv => whnf) | (refine ⟨⟨by decide, by decide, by omega⟩, ?_⟩; conv => whnf) | (refine ⟨small_sz (Nat.le_of_ble_eq_true rfl), ?_⟩; conv => whnf) | fail))
  refine gC g9 ⟨_, (leads b (ws.take i) : Rat), 3412, 170, rfl, ra, rl, by decide, ?_⟩
  rw [lk_eq]
  conv => whnf
  rw [a1]
  conv => whnf
  refine gC g34 ⟨w.1, b, 140, 10, rfl, ow.ne, ow.vb, hb, by decide, fun f hf => ?_⟩
  rw [mx_eq hf]
  conv => whnf
  rw [a1]
  conv => whnf
  refine gC g33 ⟨b, w.2, 10, 140, rfl, hb, ow.st, by decide, ?_⟩
  have el : mx w.1 b + dot b w.2 = lead b w := rfl
  conv => whnf
  refine wIf.mk (fun hd => ?_) (fun hd => ?_)
  · have hd : lead b w = 0 := of_decide_eq_true hd
    conv => whnf
    refine gC g15 ⟨0, lk (ws.take i) e n b, 1, 3583, rfl, ⟨by decide, by decide⟩, rk, by decide, ?_⟩
    conv => whnf
    refine wIf.mk (fun h => ?_) (fun h => ?_)
    · exact q1 hd (of_decide_eq_true h)
    · ((conv => whnf); repeat' (first | (refine wIf_tt ?_; conv => whnf) | (refine wIf_ff ?_; conv => whnf) | (refine wIf.mk (fun hif => (have hif := of_decide_eq_true hif; ?_)) (fun hif => (have hif := of_decide_eq_false hif; ?_)) <;> (conv => whnf)) | (refine wIf_not ?_) | (refine ⟨(by decide : (_ : Int) ≠ 0), fun w _ hw => ?_⟩; replace hw := hw (by decide); conv => whnf) | (refine ⟨(by decide : (_ : Int) ≠ 0), div_lit (by decide), fun w _ hw => ?_⟩; replace hw := hw (by decide); conv => whnf) | (refine eq_rD ?_; conv => whnf) | (refine eq_ts ?_; conv => whnf) | (refine ne_ts ?_; conv => whnf) | (refine ne_rD ?_; conv => whnf) | (refine eq_vD ?_; conv => whnf) | (refine ne_vD ?_; conv => whnf) | (refine ⟨isi_ok rfl, ?_⟩; conv => whnf) | (apply wMulS.mk; (first | exact mul_l (by decide) (by decide) | exact mul_r (by decide) (by decide) | exact mul_ok (by l_ints) (by l_ints) (by decide)); conv => whnf) | (refine ⟨⟨by decide, by decide, by decide⟩, ?_⟩; conv => whnf) | (refine ⟨⟨by decide, by decide, by omega⟩, ?_⟩; conv => whnf) | (refine ⟨small_sz (Nat.le_of_ble_eq_true rfl), ?_⟩; conv => whnf) | fail))
      exact q2 hd (of_decide_eq_false h)
  have hd : lead b w ≠ 0 := of_decide_eq_false hd
  have hq : ((lead b w : Int) : Rat) ≠ 0 := fun z => hd (by simpa using z)
  ((conv => whnf); repeat' (first | (refine wIf_tt ?_; conv => whnf) | (refine wIf_ff ?_; conv => whnf) | (refine wIf.mk (fun hif => (have hif := of_decide_eq_true hif; ?_)) (fun hif => (have hif := of_decide_eq_false hif; ?_)) <;> (conv => whnf)) | (refine wIf_not ?_) | (refine ⟨(by decide : (_ : Int) ≠ 0), fun w _ hw => ?_⟩; replace hw := hw (by decide); conv => whnf) | (refine ⟨(by decide : (_ : Int) ≠ 0), div_lit (by decide), fun w _ hw => ?_⟩; replace hw := hw (by decide); conv => whnf) | (refine eq_rD ?_; conv => whnf) | (refine eq_ts ?_; conv => whnf) | (refine ne_ts ?_; conv => whnf) | (refine ne_rD ?_; conv => whnf) | (refine eq_vD ?_; conv => whnf) | (refine ne_vD ?_; conv => whnf) | (refine ⟨isi_ok rfl, ?_⟩; conv => whnf) | (apply wMulS.mk; (first | exact mul_l (by decide) (by decide) | exact mul_r (by decide) (by decide) | exact mul_ok (by l_ints) (by l_ints) (by decide)); conv => whnf) | (refine ⟨⟨by decide, by decide, by decide⟩, ?_⟩; conv => whnf) | (refine ⟨⟨by decide, by decide, by omega⟩, ?_⟩; conv => whnf) | (refine ⟨small_sz (Nat.le_of_ble_eq_true rfl), ?_⟩; conv => whnf) | fail))
  refine gC g11 ⟨_, (lead b w : Rat), 3583, 160, rfl, rk, rbI ldb (by decide), by decide, fun z => absurd z hq, fun _ => ?_⟩
  conv => whnf
  refine wIf.mk (fun h => ?_) (fun h => ?_)
  · ((conv => whnf); repeat' (first | (refine wIf_tt ?_; conv => whnf) | (refine wIf_ff ?_; conv => whnf) | (refine wIf.mk (fun hif => (have hif := of_decide_eq_true hif; ?_)) (fun hif => (have hif := of_decide_eq_false hif; ?_)) <;> (conv => whnf)) | (refine wIf_not ?_) | (refine ⟨(by decide : (_ : Int) ≠ 0), fun w _ hw => ?_⟩; replace hw := hw (by decide); conv => whnf) | (refine ⟨(by decide : (_ : Int) ≠ 0), div_lit (by decide), fun w _ hw => ?_⟩; replace hw := hw (by decide); conv => whnf) | (refine eq_rD ?_; conv => whnf) | (refine eq_ts ?_; conv => whnf) | (refine ne_ts ?_; conv => whnf) | (refine ne_rD ?_; conv => whnf) | (refine eq_vD ?_; conv => whnf) | (refine ne_vD ?_; conv => whnf) | (refine ⟨isi_ok rfl, ?_⟩; conv => whnf) | (apply wMulS.mk; (first | exact mul_l (by decide) (by decide) | exact mul_r (by decide) (by decide) | exact mul_ok (by l_ints) (by l_ints) (by decide)); conv => whnf) | (refine ⟨⟨by decide, by decide, by decide⟩, ?_⟩; conv => whnf) | (refine ⟨⟨by decide, by decide, by omega⟩, ?_⟩; conv => whnf) | (refine ⟨small_sz (Nat.le_of_ble_eq_true rfl), ?_⟩; conv => whnf) | fail))
    exact q3 (of_decide_eq_true h)
  · have h : ¬ 0 < lead b w := of_decide_eq_false h
    ((conv => whnf); repeat' (first | (refine wIf_tt ?_; conv => whnf) | (refine wIf_ff ?_; conv => whnf) | (refine wIf.mk (fun hif => (have hif := of_decide_eq_true hif; ?_)) (fun hif => (have hif := of_decide_eq_false hif; ?_)) <;> (conv => whnf)) | (refine wIf_not ?_) | (refine ⟨(by decide : (_ : Int) ≠ 0), fun w _ hw => ?_⟩; replace hw := hw (by decide); conv => whnf) | (refine ⟨(by decide : (_ : Int) ≠ 0), div_lit (by decide), fun w _ hw => ?_⟩; replace hw := hw (by decide); conv => whnf) | (refine eq_rD ?_; conv => whnf) | (refine eq_ts ?_; conv => whnf) | (refine ne_ts ?_; conv => whnf) | (refine ne_rD ?_; conv => whnf) | (refine eq_vD ?_; conv => whnf) | (refine ne_vD ?_; conv => whnf) | (refine ⟨isi_ok rfl, ?_⟩; conv => whnf) | (apply wMulS.mk; (first | exact mul_l (by decide) (by decide) | exact mul_r (by decide) (by decide) | exact mul_ok (by l_ints) (by l_ints) (by decide)); conv => whnf) | (refine ⟨⟨by decide, by decide, by decide⟩, ?_⟩; conv => whnf) | (refine ⟨⟨by decide, by decide, by omega⟩, ?_⟩; conv => whnf) | (refine ⟨small_sz (Nat.le_of_ble_eq_true rfl), ?_⟩; conv => whnf) | fail))
    exact q4 (by omega)
def sp_barred_from : DSp := fun ds Q X => ∃ (ws : List Wt) (i : Nat) (w : Wt) (e n : Rat) (bs : List Vec), ds = [watD ws, .int i, PD e n, windD bs] ∧ ws.length ≤ 12 ∧ (∀ w ∈ ws, WtOk 140 12 w) ∧ ws[i]? = some w ∧ PB 3400 e n ∧ (∀ b ∈ bs, VB 10 b) ∧ Q (.d (ansD (res (ws.take i) w e n bs 0 1)))
theorem lkd_rb {ws : List Wt} {w : Wt} {e n : Rat} {b : Vec} (hl : ws.length ≤ 12) (hws : ∀ w ∈ ws, WtOk 140 12 w) (ow : WtOk 140 12 w) (hp : PB 3400 e n) (hb : VB 10 b) (hd : lead b w ≠ 0) : RB 3750 (lk ws e n b / (lead b w : Rat)) := by
  have lb := leads_bd hb hl hws
  have rl : RB 170 (leads b ws : Rat) := rbI lb (by decide)
  have ra : RB 3412 ((b.1 : Rat) * e + (b.2 : Rat) * n) := by
    rw [← along_eq]
    exact RB.divInt (((hb.1.mul hp.1).add (hb.2.mul hp.2.1)).mono (by decide)) (hp.2.2.mono (by decide)) (by have := plc_pos e n; omega)
  have rk : RB 3583 (lk ws e n b) := by rw [← lk_eq]; exact ra.sub rl
  exact (rk.div (rbI (lead_bd ow hb) (by decide)) fun z => hd (by simpa using z)).mono (by decide)
theorem p_barred_from {G : Nat → DSp} (g78 : G 78 = sp_bounds_by) (g15 : G 15 = sp_is_before) : FnW G 8 4 m_barred_from sp_barred_from := by
  intro ds Q X ⟨ws, i, w, e, n, bs, e0, hl, hws, hwi, hp, hb, q⟩
  subst e0
  refine ⟨rfl, ?_⟩
  have ow := hws w (List.mem_of_getElem? hwi)
  have htk : ∀ u ∈ ws.take i, WtOk 140 12 u := fun u hu => hws u (List.mem_of_mem_take hu)
  have htl : (ws.take i).length ≤ 12 := by rw [List.length_take]; omega
  have bf : ∀ (r s : Rat) (W : R → Prop) {X : Nat → Prop}, RB 3750 r → RB 3750 s → W (.d (.bool (decide (r < s)))) → G 15 [rD r, rD s] W X := fun r s W _ h1 h2 h => gC g15 ⟨r, s, 3750, 3750, rfl, h1, h2, by decide, h⟩
  have r0 : RB 3750 (0 : Rat) := RB.mono (m := 1) ⟨by decide, by decide⟩ (by decide)
  have r1 : RB 3750 (1 : Rat) := RB.mono (m := 1) ⟨by decide, by decide⟩ (by decide)
  ((conv => whnf); repeat' (first | (refine wIf_tt ?_; conv => whnf) | (refine wIf_ff ?_; conv => whnf) | (refine wIf.mk (fun hif => (have hif := of_decide_eq_true hif; ?_)) (fun hif => (have hif := of_decide_eq_false hif; ?_)) <;> (conv => whnf)) | (refine wIf_not ?_) | (refine ⟨(by decide : (_ : Int) ≠ 0), fun w _ hw => ?_⟩; replace hw := hw (by decide); conv => whnf) | (refine ⟨(by decide : (_ : Int) ≠ 0), div_lit (by decide), fun w _ hw => ?_⟩; replace hw := hw (by decide); conv => whnf) | (refine eq_rD ?_; conv => whnf) | (refine eq_ts ?_; conv => whnf) | (refine ne_ts ?_; conv => whnf) | (refine ne_rD ?_; conv => whnf) | (refine eq_vD ?_; conv => whnf) | (refine ne_vD ?_; conv => whnf) | (refine ⟨isi_ok rfl, ?_⟩; conv => whnf) | (apply wMulS.mk; (first | exact mul_l (by decide) (by decide) | exact mul_r (by decide) (by decide) | exact mul_ok (by l_ints) (by l_ints) (by decide)); conv => whnf) | (refine ⟨⟨by decide, by decide, by decide⟩, ?_⟩; conv => whnf) | (refine ⟨⟨by decide, by decide, by omega⟩, ?_⟩; conv => whnf) | (refine ⟨small_sz (Nat.le_of_ble_eq_true rfl), ?_⟩; conv => whnf) | fail))
  refine ⟨rfl, ?_⟩
  refine forLoop_ind (fun ds ρ => ∃ (qs : List Vec) (l g : Rat) (x y : Option DL.R), ds = qs.map vD ∧ (∀ b ∈ qs, VB 10 b) ∧ res (ws.take i) w e n qs l g = res (ws.take i) w e n bs 0 1 ∧ 0 ≤ l ∧ g ≤ 1 ∧ RB 3750 l ∧ RB 3750 g ∧ ρ = [some (.d (watD ws)), some (.d (.int i)), some (.d (PD e n)), some (.d (windD bs)), some (.d (rD l)), some (.d (rD g)), x, y]) ?_ ?_ _ _ ⟨bs, 0, 1, none, none, rfl, hb, rfl, by decide, by decide, r0, r1, rfl⟩
  · rintro ρ ⟨qs, l, g, x, y, e1, h1, h2, h3, h4, h5, h6, rfl⟩
    have : qs = [] := by simpa using e1.symm
    subst this
    conv => whnf
    refine bf g l _ h6 h5 ?_
    rw [res_nil] at h2
    conv => whnf
    refine wIf.mk (fun h => ?_) (fun h => ?_)
    · have h : g < l := of_decide_eq_true h
      rw [if_pos h] at h2
      rw [← h2] at q
      conv => whnf
      exact q
    · have h : ¬ g < l := of_decide_eq_false h
      rw [if_neg h] at h2
      rw [← h2] at q
      ((conv => whnf); repeat' (first | (refine wIf_tt ?_; conv => whnf) | (refine wIf_ff ?_; conv => whnf) | (refine wIf.mk (fun hif => (have hif := of_decide_eq_true hif; ?_)) (fun hif => (have hif := of_decide_eq_false hif; ?_)) <;> (conv => whnf)) | (refine wIf_not ?_) | (refine ⟨(by decide : (_ : Int) ≠ 0), fun w _ hw => ?_⟩; replace hw := hw (by decide); conv => whnf) | (refine ⟨(by decide : (_ : Int) ≠ 0), div_lit (by decide), fun w _ hw => ?_⟩; replace hw := hw (by decide); conv => whnf) | (refine eq_rD ?_; conv => whnf) | (refine eq_ts ?_; conv => whnf) | (refine ne_ts ?_; conv => whnf) | (refine ne_rD ?_; conv => whnf) | (refine eq_vD ?_; conv => whnf) | (refine ne_vD ?_; conv => whnf) | (refine ⟨isi_ok rfl, ?_⟩; conv => whnf) | (apply wMulS.mk; (first | exact mul_l (by decide) (by decide) | exact mul_r (by decide) (by decide) | exact mul_ok (by l_ints) (by l_ints) (by decide)); conv => whnf) | (refine ⟨⟨by decide, by decide, by decide⟩, ?_⟩; conv => whnf) | (refine ⟨⟨by decide, by decide, by omega⟩, ?_⟩; conv => whnf) | (refine ⟨small_sz (Nat.le_of_ble_eq_true rfl), ?_⟩; conv => whnf) | fail))
      exact q
  rintro d ds ρ ⟨qs, l, g, x, y, e1, h1, h2, h3, h4, h5, h6, rfl⟩ nx hnx
  cases qs with
  | nil => cases e1
  | cons b qs =>
    cases e1
    have hbb := h1 b List.mem_cons_self
    have hqs := fun c hc => h1 c (List.mem_cons_of_mem b hc)
    have n0 : ¬ l < 0 := Rat.not_lt.mpr h3
    have n1 : ¬ (1 : Rat) < g := Rat.not_lt.mpr h4
    rw [res_cons] at h2
    conv => whnf
    refine gC g78 ⟨ws, i, w, e, n, b, rfl, hl, hws, hwi, hp, hbb, fun c1 c2 => ?_, fun c1 c2 => ?_, fun c1 => ?_, fun c1 => ?_⟩
    · rw [if_pos ⟨c1, c2⟩] at h2
      rw [← h2] at q
      ((conv => whnf); repeat' (first | (refine wIf_tt ?_; conv => whnf) | (refine wIf_ff ?_; conv => whnf) | (refine wIf.mk (fun hif => (have hif := of_decide_eq_true hif; ?_)) (fun hif => (have hif := of_decide_eq_false hif; ?_)) <;> (conv => whnf)) | (refine wIf_not ?_) | (refine ⟨(by decide : (_ : Int) ≠ 0), fun w _ hw => ?_⟩; replace hw := hw (by decide); conv => whnf) | (refine ⟨(by decide : (_ : Int) ≠ 0), div_lit (by decide), fun w _ hw => ?_⟩; replace hw := hw (by decide); conv => whnf) | (refine eq_rD ?_; conv => whnf) | (refine eq_ts ?_; conv => whnf) | (refine ne_ts ?_; conv => whnf) | (refine ne_rD ?_; conv => whnf) | (refine eq_vD ?_; conv => whnf) | (refine ne_vD ?_; conv => whnf) | (refine ⟨isi_ok rfl, ?_⟩; conv => whnf) | (apply wMulS.mk; (first | exact mul_l (by decide) (by decide) | exact mul_r (by decide) (by decide) | exact mul_ok (by l_ints) (by l_ints) (by decide)); conv => whnf) | (refine ⟨⟨by decide, by decide, by decide⟩, ?_⟩; conv => whnf) | (refine ⟨⟨by decide, by decide, by omega⟩, ?_⟩; conv => whnf) | (refine ⟨small_sz (Nat.le_of_ble_eq_true rfl), ?_⟩; conv => whnf) | fail))
      exact q
    · rw [if_neg (fun z => c2 z.2), if_neg (fun z => by omega), if_neg (fun z => by omega)] at h2
      ((conv => whnf); repeat' (first | (refine wIf_tt ?_; conv => whnf) | (refine wIf_ff ?_; conv => whnf) | (refine wIf.mk (fun hif => (have hif := of_decide_eq_true hif; ?_)) (fun hif => (have hif := of_decide_eq_false hif; ?_)) <;> (conv => whnf)) | (refine wIf_not ?_) | (refine ⟨(by decide : (_ : Int) ≠ 0), fun w _ hw => ?_⟩; replace hw := hw (by decide); conv => whnf) | (refine ⟨(by decide : (_ : Int) ≠ 0), div_lit (by decide), fun w _ hw => ?_⟩; replace hw := hw (by decide); conv => whnf) | (refine eq_rD ?_; conv => whnf) | (refine eq_ts ?_; conv => whnf) | (refine ne_ts ?_; conv => whnf) | (refine ne_rD ?_; conv => whnf) | (refine eq_vD ?_; conv => whnf) | (refine ne_vD ?_; conv => whnf) | (refine ⟨isi_ok rfl, ?_⟩; conv => whnf) | (apply wMulS.mk; (first | exact mul_l (by decide) (by decide) | exact mul_r (by decide) (by decide) | exact mul_ok (by l_ints) (by l_ints) (by decide)); conv => whnf) | (refine ⟨⟨by decide, by decide, by decide⟩, ?_⟩; conv => whnf) | (refine ⟨⟨by decide, by decide, by omega⟩, ?_⟩; conv => whnf) | (refine ⟨small_sz (Nat.le_of_ble_eq_true rfl), ?_⟩; conv => whnf) | fail))
      refine bf l 0 _ h5 r0 ?_
      rw [decide_eq_false n0]
      ((conv => whnf); repeat' (first | (refine wIf_tt ?_; conv => whnf) | (refine wIf_ff ?_; conv => whnf) | (refine wIf.mk (fun hif => (have hif := of_decide_eq_true hif; ?_)) (fun hif => (have hif := of_decide_eq_false hif; ?_)) <;> (conv => whnf)) | (refine wIf_not ?_) | (refine ⟨(by decide : (_ : Int) ≠ 0), fun w _ hw => ?_⟩; replace hw := hw (by decide); conv => whnf) | (refine ⟨(by decide : (_ : Int) ≠ 0), div_lit (by decide), fun w _ hw => ?_⟩; replace hw := hw (by decide); conv => whnf) | (refine eq_rD ?_; conv => whnf) | (refine eq_ts ?_; conv => whnf) | (refine ne_ts ?_; conv => whnf) | (refine ne_rD ?_; conv => whnf) | (refine eq_vD ?_; conv => whnf) | (refine ne_vD ?_; conv => whnf) | (refine ⟨isi_ok rfl, ?_⟩; conv => whnf) | (apply wMulS.mk; (first | exact mul_l (by decide) (by decide) | exact mul_r (by decide) (by decide) | exact mul_ok (by l_ints) (by l_ints) (by decide)); conv => whnf) | (refine ⟨⟨by decide, by decide, by decide⟩, ?_⟩; conv => whnf) | (refine ⟨⟨by decide, by decide, by omega⟩, ?_⟩; conv => whnf) | (refine ⟨small_sz (Nat.le_of_ble_eq_true rfl), ?_⟩; conv => whnf) | fail))
      refine bf 1 g _ r1 h6 ?_
      rw [decide_eq_false n1]
      ((conv => whnf); repeat' (first | (refine wIf_tt ?_; conv => whnf) | (refine wIf_ff ?_; conv => whnf) | (refine wIf.mk (fun hif => (have hif := of_decide_eq_true hif; ?_)) (fun hif => (have hif := of_decide_eq_false hif; ?_)) <;> (conv => whnf)) | (refine wIf_not ?_) | (refine ⟨(by decide : (_ : Int) ≠ 0), fun w _ hw => ?_⟩; replace hw := hw (by decide); conv => whnf) | (refine ⟨(by decide : (_ : Int) ≠ 0), div_lit (by decide), fun w _ hw => ?_⟩; replace hw := hw (by decide); conv => whnf) | (refine eq_rD ?_; conv => whnf) | (refine eq_ts ?_; conv => whnf) | (refine ne_ts ?_; conv => whnf) | (refine ne_rD ?_; conv => whnf) | (refine eq_vD ?_; conv => whnf) | (refine ne_vD ?_; conv => whnf) | (refine ⟨isi_ok rfl, ?_⟩; conv => whnf) | (apply wMulS.mk; (first | exact mul_l (by decide) (by decide) | exact mul_r (by decide) (by decide) | exact mul_ok (by l_ints) (by l_ints) (by decide)); conv => whnf) | (refine ⟨⟨by decide, by decide, by decide⟩, ?_⟩; conv => whnf) | (refine ⟨⟨by decide, by decide, by omega⟩, ?_⟩; conv => whnf) | (refine ⟨small_sz (Nat.le_of_ble_eq_true rfl), ?_⟩; conv => whnf) | fail))
      exact hnx _ ⟨qs, l, g, _, _, rfl, hqs, h2, h3, h4, h5, h6, rfl⟩
    · have hd : lead b w ≠ 0 := by omega
      have rq := lkd_rb htl htk ow hp hbb hd
      rw [if_neg (fun z => hd z.1), if_neg (c := lead b w < 0 ∧ _) (fun z => by omega)] at h2
      ((conv => whnf); repeat' (first | (refine wIf_tt ?_; conv => whnf) | (refine wIf_ff ?_; conv => whnf) | (refine wIf.mk (fun hif => (have hif := of_decide_eq_true hif; ?_)) (fun hif => (have hif := of_decide_eq_false hif; ?_)) <;> (conv => whnf)) | (refine wIf_not ?_) | (refine ⟨(by decide : (_ : Int) ≠ 0), fun w _ hw => ?_⟩; replace hw := hw (by decide); conv => whnf) | (refine ⟨(by decide : (_ : Int) ≠ 0), div_lit (by decide), fun w _ hw => ?_⟩; replace hw := hw (by decide); conv => whnf) | (refine eq_rD ?_; conv => whnf) | (refine eq_ts ?_; conv => whnf) | (refine ne_ts ?_; conv => whnf) | (refine ne_rD ?_; conv => whnf) | (refine eq_vD ?_; conv => whnf) | (refine ne_vD ?_; conv => whnf) | (refine ⟨isi_ok rfl, ?_⟩; conv => whnf) | (apply wMulS.mk; (first | exact mul_l (by decide) (by decide) | exact mul_r (by decide) (by decide) | exact mul_ok (by l_ints) (by l_ints) (by decide)); conv => whnf) | (refine ⟨⟨by decide, by decide, by decide⟩, ?_⟩; conv => whnf) | (refine ⟨⟨by decide, by decide, by omega⟩, ?_⟩; conv => whnf) | (refine ⟨small_sz (Nat.le_of_ble_eq_true rfl), ?_⟩; conv => whnf) | fail))
      refine bf l _ _ h5 rq ?_
      conv => whnf
      refine wIf.mk (fun h => ?_) (fun h => ?_)
      · have h := of_decide_eq_true h
        rw [if_pos ⟨c1, h⟩] at h2
        ((conv => whnf); repeat' (first | (refine wIf_tt ?_; conv => whnf) | (refine wIf_ff ?_; conv => whnf) | (refine wIf.mk (fun hif => (have hif := of_decide_eq_true hif; ?_)) (fun hif => (have hif := of_decide_eq_false hif; ?_)) <;> (conv => whnf)) | (refine wIf_not ?_) | (refine ⟨(by decide : (_ : Int) ≠ 0), fun w _ hw => ?_⟩; replace hw := hw (by decide); conv => whnf) | (refine ⟨(by decide : (_ : Int) ≠ 0), div_lit (by decide), fun w _ hw => ?_⟩; replace hw := hw (by decide); conv => whnf) | (refine eq_rD ?_; conv => whnf) | (refine eq_ts ?_; conv => whnf) | (refine ne_ts ?_; conv => whnf) | (refine ne_rD ?_; conv => whnf) | (refine eq_vD ?_; conv => whnf) | (refine ne_vD ?_; conv => whnf) | (refine ⟨isi_ok rfl, ?_⟩; conv => whnf) | (apply wMulS.mk; (first | exact mul_l (by decide) (by decide) | exact mul_r (by decide) (by decide) | exact mul_ok (by l_ints) (by l_ints) (by decide)); conv => whnf) | (refine ⟨⟨by decide, by decide, by decide⟩, ?_⟩; conv => whnf) | (refine ⟨⟨by decide, by decide, by omega⟩, ?_⟩; conv => whnf) | (refine ⟨small_sz (Nat.le_of_ble_eq_true rfl), ?_⟩; conv => whnf) | fail))
        refine bf 1 g _ r1 h6 ?_
        rw [decide_eq_false n1]
        ((conv => whnf); repeat' (first | (refine wIf_tt ?_; conv => whnf) | (refine wIf_ff ?_; conv => whnf) | (refine wIf.mk (fun hif => (have hif := of_decide_eq_true hif; ?_)) (fun hif => (have hif := of_decide_eq_false hif; ?_)) <;> (conv => whnf)) | (refine wIf_not ?_) | (refine ⟨(by decide : (_ : Int) ≠ 0), fun w _ hw => ?_⟩; replace hw := hw (by decide); conv => whnf) | (refine ⟨(by decide : (_ : Int) ≠ 0), div_lit (by decide), fun w _ hw => ?_⟩; replace hw := hw (by decide); conv => whnf) | (refine eq_rD ?_; conv => whnf) | (refine eq_ts ?_; conv => whnf) | (refine ne_ts ?_; conv => whnf) | (refine ne_rD ?_; conv => whnf) | (refine eq_vD ?_; conv => whnf) | (refine ne_vD ?_; conv => whnf) | (refine ⟨isi_ok rfl, ?_⟩; conv => whnf) | (apply wMulS.mk; (first | exact mul_l (by decide) (by decide) | exact mul_r (by decide) (by decide) | exact mul_ok (by l_ints) (by l_ints) (by decide)); conv => whnf) | (refine ⟨⟨by decide, by decide, by decide⟩, ?_⟩; conv => whnf) | (refine ⟨⟨by decide, by decide, by omega⟩, ?_⟩; conv => whnf) | (refine ⟨small_sz (Nat.le_of_ble_eq_true rfl), ?_⟩; conv => whnf) | fail))
        exact hnx _ ⟨qs, _, g, _, _, rfl, hqs, h2, Rat.le_trans h3 (Rat.le_of_lt h), h4, rq, h6, rfl⟩
      · have h := of_decide_eq_false h
        rw [if_neg (fun z => h z.2)] at h2
        ((conv => whnf); repeat' (first | (refine wIf_tt ?_; conv => whnf) | (refine wIf_ff ?_; conv => whnf) | (refine wIf.mk (fun hif => (have hif := of_decide_eq_true hif; ?_)) (fun hif => (have hif := of_decide_eq_false hif; ?_)) <;> (conv => whnf)) | (refine wIf_not ?_) | (refine ⟨(by decide : (_ : Int) ≠ 0), fun w _ hw => ?_⟩; replace hw := hw (by decide); conv => whnf) | (refine ⟨(by decide : (_ : Int) ≠ 0), div_lit (by decide), fun w _ hw => ?_⟩; replace hw := hw (by decide); conv => whnf) | (refine eq_rD ?_; conv => whnf) | (refine eq_ts ?_; conv => whnf) | (refine ne_ts ?_; conv => whnf) | (refine ne_rD ?_; conv => whnf) | (refine eq_vD ?_; conv => whnf) | (refine ne_vD ?_; conv => whnf) | (refine ⟨isi_ok rfl, ?_⟩; conv => whnf) | (apply wMulS.mk; (first | exact mul_l (by decide) (by decide) | exact mul_r (by decide) (by decide) | exact mul_ok (by l_ints) (by l_ints) (by decide)); conv => whnf) | (refine ⟨⟨by decide, by decide, by decide⟩, ?_⟩; conv => whnf) | (refine ⟨⟨by decide, by decide, by omega⟩, ?_⟩; conv => whnf) | (refine ⟨small_sz (Nat.le_of_ble_eq_true rfl), ?_⟩; conv => whnf) | fail))
        refine bf 1 g _ r1 h6 ?_
        rw [decide_eq_false n1]
        ((conv => whnf); repeat' (first | (refine wIf_tt ?_; conv => whnf) | (refine wIf_ff ?_; conv => whnf) | (refine wIf.mk (fun hif => (have hif := of_decide_eq_true hif; ?_)) (fun hif => (have hif := of_decide_eq_false hif; ?_)) <;> (conv => whnf)) | (refine wIf_not ?_) | (refine ⟨(by decide : (_ : Int) ≠ 0), fun w _ hw => ?_⟩; replace hw := hw (by decide); conv => whnf) | (refine ⟨(by decide : (_ : Int) ≠ 0), div_lit (by decide), fun w _ hw => ?_⟩; replace hw := hw (by decide); conv => whnf) | (refine eq_rD ?_; conv => whnf) | (refine eq_ts ?_; conv => whnf) | (refine ne_ts ?_; conv => whnf) | (refine ne_rD ?_; conv => whnf) | (refine eq_vD ?_; conv => whnf) | (refine ne_vD ?_; conv => whnf) | (refine ⟨isi_ok rfl, ?_⟩; conv => whnf) | (apply wMulS.mk; (first | exact mul_l (by decide) (by decide) | exact mul_r (by decide) (by decide) | exact mul_ok (by l_ints) (by l_ints) (by decide)); conv => whnf) | (refine ⟨⟨by decide, by decide, by decide⟩, ?_⟩; conv => whnf) | (refine ⟨⟨by decide, by decide, by omega⟩, ?_⟩; conv => whnf) | (refine ⟨small_sz (Nat.le_of_ble_eq_true rfl), ?_⟩; conv => whnf) | fail))
        exact hnx _ ⟨qs, l, g, _, _, rfl, hqs, h2, h3, h4, h5, h6, rfl⟩
    · have hd : lead b w ≠ 0 := by omega
      have rq := lkd_rb htl htk ow hp hbb hd
      rw [if_neg (fun z => hd z.1), if_neg (c := 0 < lead b w ∧ _) (fun z => by omega)] at h2
      ((conv => whnf); repeat' (first | (refine wIf_tt ?_; conv => whnf) | (refine wIf_ff ?_; conv => whnf) | (refine wIf.mk (fun hif => (have hif := of_decide_eq_true hif; ?_)) (fun hif => (have hif := of_decide_eq_false hif; ?_)) <;> (conv => whnf)) | (refine wIf_not ?_) | (refine ⟨(by decide : (_ : Int) ≠ 0), fun w _ hw => ?_⟩; replace hw := hw (by decide); conv => whnf) | (refine ⟨(by decide : (_ : Int) ≠ 0), div_lit (by decide), fun w _ hw => ?_⟩; replace hw := hw (by decide); conv => whnf) | (refine eq_rD ?_; conv => whnf) | (refine eq_ts ?_; conv => whnf) | (refine ne_ts ?_; conv => whnf) | (refine ne_rD ?_; conv => whnf) | (refine eq_vD ?_; conv => whnf) | (refine ne_vD ?_; conv => whnf) | (refine ⟨isi_ok rfl, ?_⟩; conv => whnf) | (apply wMulS.mk; (first | exact mul_l (by decide) (by decide) | exact mul_r (by decide) (by decide) | exact mul_ok (by l_ints) (by l_ints) (by decide)); conv => whnf) | (refine ⟨⟨by decide, by decide, by decide⟩, ?_⟩; conv => whnf) | (refine ⟨⟨by decide, by decide, by omega⟩, ?_⟩; conv => whnf) | (refine ⟨small_sz (Nat.le_of_ble_eq_true rfl), ?_⟩; conv => whnf) | fail))
      refine bf l 0 _ h5 r0 ?_
      rw [decide_eq_false n0]
      ((conv => whnf); repeat' (first | (refine wIf_tt ?_; conv => whnf) | (refine wIf_ff ?_; conv => whnf) | (refine wIf.mk (fun hif => (have hif := of_decide_eq_true hif; ?_)) (fun hif => (have hif := of_decide_eq_false hif; ?_)) <;> (conv => whnf)) | (refine wIf_not ?_) | (refine ⟨(by decide : (_ : Int) ≠ 0), fun w _ hw => ?_⟩; replace hw := hw (by decide); conv => whnf) | (refine ⟨(by decide : (_ : Int) ≠ 0), div_lit (by decide), fun w _ hw => ?_⟩; replace hw := hw (by decide); conv => whnf) | (refine eq_rD ?_; conv => whnf) | (refine eq_ts ?_; conv => whnf) | (refine ne_ts ?_; conv => whnf) | (refine ne_rD ?_; conv => whnf) | (refine eq_vD ?_; conv => whnf) | (refine ne_vD ?_; conv => whnf) | (refine ⟨isi_ok rfl, ?_⟩; conv => whnf) | (apply wMulS.mk; (first | exact mul_l (by decide) (by decide) | exact mul_r (by decide) (by decide) | exact mul_ok (by l_ints) (by l_ints) (by decide)); conv => whnf) | (refine ⟨⟨by decide, by decide, by decide⟩, ?_⟩; conv => whnf) | (refine ⟨⟨by decide, by decide, by omega⟩, ?_⟩; conv => whnf) | (refine ⟨small_sz (Nat.le_of_ble_eq_true rfl), ?_⟩; conv => whnf) | fail))
      refine bf _ g _ rq h6 ?_
      conv => whnf
      refine wIf.mk (fun h => ?_) (fun h => ?_)
      · have h := of_decide_eq_true h
        rw [if_pos ⟨c1, h⟩] at h2
        ((conv => whnf); repeat' (first | (refine wIf_tt ?_; conv => whnf) | (refine wIf_ff ?_; conv => whnf) | (refine wIf.mk (fun hif => (have hif := of_decide_eq_true hif; ?_)) (fun hif => (have hif := of_decide_eq_false hif; ?_)) <;> (conv => whnf)) | (refine wIf_not ?_) | (refine ⟨(by decide : (_ : Int) ≠ 0), fun w _ hw => ?_⟩; replace hw := hw (by decide); conv => whnf) | (refine ⟨(by decide : (_ : Int) ≠ 0), div_lit (by decide), fun w _ hw => ?_⟩; replace hw := hw (by decide); conv => whnf) | (refine eq_rD ?_; conv => whnf) | (refine eq_ts ?_; conv => whnf) | (refine ne_ts ?_; conv => whnf) | (refine ne_rD ?_; conv => whnf) | (refine eq_vD ?_; conv => whnf) | (refine ne_vD ?_; conv => whnf) | (refine ⟨isi_ok rfl, ?_⟩; conv => whnf) | (apply wMulS.mk; (first | exact mul_l (by decide) (by decide) | exact mul_r (by decide) (by decide) | exact mul_ok (by l_ints) (by l_ints) (by decide)); conv => whnf) | (refine ⟨⟨by decide, by decide, by decide⟩, ?_⟩; conv => whnf) | (refine ⟨⟨by decide, by decide, by omega⟩, ?_⟩; conv => whnf) | (refine ⟨small_sz (Nat.le_of_ble_eq_true rfl), ?_⟩; conv => whnf) | fail))
        exact hnx _ ⟨qs, l, _, _, _, rfl, hqs, h2, h3, Rat.le_trans (Rat.le_of_lt h) h4, h5, rq, rfl⟩
      · have h := of_decide_eq_false h
        rw [if_neg (fun z => h z.2)] at h2
        exact hnx _ ⟨qs, l, g, _, _, rfl, hqs, h2, h3, h4, h5, h6, rfl⟩
theorem cut_one {ws : List Wt} {i : Nat} {w : Wt} (h : ws[i]? = some w) : cutD (ws.map wtD) (some (i : Int)) (some ((i : Int) + 1)) = [w].map wtD := by
  have hi : i < ws.length := by
    rcases Nat.lt_or_ge i ws.length with g | g
    · exact g
    · rw [List.getElem?_eq_none g] at h; cases h
  have e := cut_gen (ws.map wtD) i (i + 1)
  have e2 : ((i + 1 : Nat) : Int) = (i : Int) + 1 := by omega
  rw [e2] at e
  have h9 : (ws.drop i).take 1 = [w] := by
    rw [List.drop_eq_getElem_cons hi]
    have h2 := h
    rw [List.getElem?_eq_getElem hi] at h2
    cases h2
    rfl
  rw [e, ← List.map_drop, ← List.map_take, show i + 1 - i = 1 by omega, h9]
def sp_law_left : DSp := fun ds Q X => ∃ (ws : List Wt) (i : Nat) (w : Wt) (e n : Rat) (bs : List Vec), ds = [watD ws, .int i, PD e n, windD bs] ∧ ws.length ≤ 12 ∧ (∀ w ∈ ws, WtOk 140 12 w) ∧ ws[i]? = some w ∧ PB 3400 e n ∧ (∀ b ∈ bs, VB 10 b) ∧ Q (.d (ansD (res (ws.take i) w e n bs 0 1)))
theorem p_law_left {G : Nat → DSp} (g48 : G 48 = sp_law_dot) (g49 : G 49 = sp_law_far) (g95 : G 95 = sp_law_before) (g80 : G 80 = sp_law_lowest_2) : FnW G 9 4 m_law_left sp_law_left := by
  intro ds Q X ⟨ws, i, w, e, n, bs, e0, hl, hws, hwi, hp, hb, q⟩
  subst e0
  refine ⟨rfl, ?_⟩
  have ow := hws w (List.mem_of_getElem? hwi)
  have htk : ∀ u ∈ ws.take i, WtOk 140 12 u := fun u hu => hws u (List.mem_of_mem_take hu)
  have htl : (ws.take i).length ≤ 12 := by rw [List.length_take]; omega
  have hz := plc_pos e n
  have bf : ∀ (a b c d : Int) (W : R → Prop) {X : Nat → Prop}, Bd 4000 a → Bd 4000 b → Bd 4000 c → Bd 4000 d → W (.d (.bool (decide (a * d < c * b)))) → G 95 [.tuple [.int a, .int b], .tuple [.int c, .int d]] W X := fun a b c d W _ h1 h2 h3 h4 h => gC g95 ⟨a, b, c, d, rfl, ⟨4000, by decide, h1, h2, h3, h4⟩, h⟩
  have r0 : RB 3750 (0 : Rat) := RB.mono (m := 1) ⟨by decide, by decide⟩ (by decide)
  have r1 : RB 3750 (1 : Rat) := RB.mono (m := 1) ⟨by decide, by decide⟩ (by decide)
  ((conv => whnf); repeat' (first | (refine wIf_tt ?_; conv => whnf) | (refine wIf_ff ?_; conv => whnf) | (refine wIf.mk (fun hif => (have hif := of_decide_eq_true hif; ?_)) (fun hif => (have hif := of_decide_eq_false hif; ?_)) <;> (conv => whnf)) | (refine wIf_not ?_) | (refine ⟨(by decide : (_ : Int) ≠ 0), fun w _ hw => ?_⟩; replace hw := hw (by decide); conv => whnf) | (refine ⟨(by decide : (_ : Int) ≠ 0), div_lit (by decide), fun w _ hw => ?_⟩; replace hw := hw (by decide); conv => whnf) | (refine eq_rD ?_; conv => whnf) | (refine eq_ts ?_; conv => whnf) | (refine ne_ts ?_; conv => whnf) | (refine ne_rD ?_; conv => whnf) | (refine eq_vD ?_; conv => whnf) | (refine ne_vD ?_; conv => whnf) | (refine ⟨isi_ok rfl, ?_⟩; conv => whnf) | (apply wMulS.mk; (first | exact mul_l (by decide) (by decide) | exact mul_r (by decide) (by decide) | exact mul_ok (by l_ints) (by l_ints) (by decide)); conv => whnf) | (refine ⟨⟨by decide, by decide, by decide⟩, ?_⟩; conv => whnf) | (refine ⟨⟨by decide, by decide, by omega⟩, ?_⟩; conv => whnf) | (refine ⟨small_sz (Nat.le_of_ble_eq_true rfl), ?_⟩; conv => whnf) | fail))
  refine ⟨rfl, ?_⟩
  refine forLoop_ind (fun ds ρ => ∃ (qs : List Vec) (l g : Rat) (x y z : Option DL.R), ds = qs.map vD ∧ (∀ b ∈ qs, VB 10 b) ∧ res (ws.take i) w e n qs l g = res (ws.take i) w e n bs 0 1 ∧ RB 3750 l ∧ RB 3750 g ∧ ρ = [some (.d (watD ws)), some (.d (.int i)), some (.d (PD e n)), some (.d (windD bs)), some (.d (rD l)), some (.d (rD g)), x, y, z]) ?_ ?_ _ _ ⟨bs, 0, 1, none, none, none, rfl, hb, rfl, r0, r1, rfl⟩
  · rintro ρ ⟨qs, l, g, x, y, z, e1, h1, h2, h5, h6, rfl⟩
    have : qs = [] := by simpa using e1.symm
    subst this
    rw [res_nil] at h2
    conv => whnf
    refine bf g.num g.den l.num l.den _ (h6.1.mono (by decide)) (h6.2.mono (by decide)) (h5.1.mono (by decide)) (h5.2.mono (by decide)) ?_
    conv => whnf
    refine wIf.mk (fun h => ?_) (fun h => ?_)
    · have h : g < l := (Rat.lt_iff g l).mpr (of_decide_eq_true h)
      rw [if_pos h] at h2
      rw [← h2] at q
      ((conv => whnf); repeat' (first | (refine wIf_tt ?_; conv => whnf) | (refine wIf_ff ?_; conv => whnf) | (refine wIf.mk (fun hif => (have hif := of_decide_eq_true hif; ?_)) (fun hif => (have hif := of_decide_eq_false hif; ?_)) <;> (conv => whnf)) | (refine wIf_not ?_) | (refine ⟨(by decide : (_ : Int) ≠ 0), fun w _ hw => ?_⟩; replace hw := hw (by decide); conv => whnf) | (refine ⟨(by decide : (_ : Int) ≠ 0), div_lit (by decide), fun w _ hw => ?_⟩; replace hw := hw (by decide); conv => whnf) | (refine eq_rD ?_; conv => whnf) | (refine eq_ts ?_; conv => whnf) | (refine ne_ts ?_; conv => whnf) | (refine ne_rD ?_; conv => whnf) | (refine eq_vD ?_; conv => whnf) | (refine ne_vD ?_; conv => whnf) | (refine ⟨isi_ok rfl, ?_⟩; conv => whnf) | (apply wMulS.mk; (first | exact mul_l (by decide) (by decide) | exact mul_r (by decide) (by decide) | exact mul_ok (by l_ints) (by l_ints) (by decide)); conv => whnf) | (refine ⟨⟨by decide, by decide, by decide⟩, ?_⟩; conv => whnf) | (refine ⟨⟨by decide, by decide, by omega⟩, ?_⟩; conv => whnf) | (refine ⟨small_sz (Nat.le_of_ble_eq_true rfl), ?_⟩; conv => whnf) | fail))
      exact q
    · have h : ¬ g < l := fun z => (of_decide_eq_false h) ((Rat.lt_iff g l).mp z)
      rw [if_neg h] at h2
      rw [← h2] at q
      ((conv => whnf); repeat' (first | (refine wIf_tt ?_; conv => whnf) | (refine wIf_ff ?_; conv => whnf) | (refine wIf.mk (fun hif => (have hif := of_decide_eq_true hif; ?_)) (fun hif => (have hif := of_decide_eq_false hif; ?_)) <;> (conv => whnf)) | (refine wIf_not ?_) | (refine ⟨(by decide : (_ : Int) ≠ 0), fun w _ hw => ?_⟩; replace hw := hw (by decide); conv => whnf) | (refine ⟨(by decide : (_ : Int) ≠ 0), div_lit (by decide), fun w _ hw => ?_⟩; replace hw := hw (by decide); conv => whnf) | (refine eq_rD ?_; conv => whnf) | (refine eq_ts ?_; conv => whnf) | (refine ne_ts ?_; conv => whnf) | (refine ne_rD ?_; conv => whnf) | (refine eq_vD ?_; conv => whnf) | (refine ne_vD ?_; conv => whnf) | (refine ⟨isi_ok rfl, ?_⟩; conv => whnf) | (apply wMulS.mk; (first | exact mul_l (by decide) (by decide) | exact mul_r (by decide) (by decide) | exact mul_ok (by l_ints) (by l_ints) (by decide)); conv => whnf) | (refine ⟨⟨by decide, by decide, by decide⟩, ?_⟩; conv => whnf) | (refine ⟨⟨by decide, by decide, by omega⟩, ?_⟩; conv => whnf) | (refine ⟨small_sz (Nat.le_of_ble_eq_true rfl), ?_⟩; conv => whnf) | fail))
      exact q
  rintro d ds ρ ⟨qs, l, g, x, y, z, e1, h1, h2, h5, h6, rfl⟩ nx hnx
  cases qs with
  | nil => cases e1
  | cons b qs =>
    cases e1
    have hbb := h1 b List.mem_cons_self
    have hqs := fun c hc => h1 c (List.mem_cons_of_mem b hc)
    rw [res_cons] at h2
    have lb := leads_bd hbb htl htk
    have ldb := lead_bd ow hbb
    have bL : Bd 3600 (LkI (ws.take i) e n b) := (((hbb.1.mul hp.1).add (hbb.2.mul hp.2.1)).sub (lb.mul hp.2.2)).mono (by decide)
    have bz : Bd 3600 ((plc e n).2.2 * lead b w) := (hp.2.2.mul ldb).mono (by decide)
    have bz2 : Bd 3600 (-(plc e n).2.2 * lead b w) := (hp.2.2.neg.mul ldb).mono (by decide)
    have go : ∀ l g x y z, res (ws.take i) w e n qs l g = res (ws.take i) w e n bs 0 1 → RB 3750 l → RB 3750 g → nx [some (.d (watD ws)), some (.d (.int i)), some (.d (PD e n)), some (.d (windD bs)), some (.d (rD l)), some (.d (rD g)), x, y, z] := fun l g x y z h h5 h6 => hnx _ ⟨qs, l, g, x, y, z, rfl, hqs, h, h5, h6, rfl⟩
    conv => whnf
    refine gC g48 (.inr ⟨b, _, _, _, 10, 3400, rfl, hbb, hp.1, hp.2.1, by decide, ?_⟩)
    conv => whnf
    rw [cut_tk]
    refine gC g49 ⟨ws.take i, b, 140, 10, 12, rfl, htk, hbb, by decide, ?_⟩
    conv => whnf
    refine ⟨mul_ok lb hp.2.2 (by decide), ?_⟩
    conv => whnf
    rw [cut_one hwi]
    refine gC g49 ⟨[w], b, 140, 10, 12, rfl, fun u hu => by rw [List.mem_singleton.mp hu]; exact ow, hbb, by decide, ?_⟩
    have e1 : leads b [w] = lead b w := by simp [leads]
    rw [e1]
    have e2 : ∀ L, L = LkI (ws.take i) e n b → (0 < L ↔ 0 < lk (ws.take i) e n b) := fun L hL => by
      rw [hL]
      have := before_iff (l := 0) (L := LkI (ws.take i) e n b) hz
      simpa [lk] using this
    conv => whnf
    refine wIf.mk (fun hd => ?_) (fun hd => ?_)
    · have hd : lead b w = 0 := of_decide_eq_true hd
      conv => whnf
      refine wIf.mk (fun h => ?_) (fun h => ?_)
      · have h := (e2 _ rfl).mp (of_decide_eq_true h)
        rw [if_pos ⟨hd, h⟩] at h2
        rw [← h2] at q
        ((conv => whnf); repeat' (first | (refine wIf_tt ?_; conv => whnf) | (refine wIf_ff ?_; conv => whnf) | (refine wIf.mk (fun hif => (have hif := of_decide_eq_true hif; ?_)) (fun hif => (have hif := of_decide_eq_false hif; ?_)) <;> (conv => whnf)) | (refine wIf_not ?_) | (refine ⟨(by decide : (_ : Int) ≠ 0), fun w _ hw => ?_⟩; replace hw := hw (by decide); conv => whnf) | (refine ⟨(by decide : (_ : Int) ≠ 0), div_lit (by decide), fun w _ hw => ?_⟩; replace hw := hw (by decide); conv => whnf) | (refine eq_rD ?_; conv => whnf) | (refine eq_ts ?_; conv => whnf) | (refine ne_ts ?_; conv => whnf) | (refine ne_rD ?_; conv => whnf) | (refine eq_vD ?_; conv => whnf) | (refine ne_vD ?_; conv => whnf) | (refine ⟨isi_ok rfl, ?_⟩; conv => whnf) | (apply wMulS.mk; (first | exact mul_l (by decide) (by decide) | exact mul_r (by decide) (by decide) | exact mul_ok (by l_ints) (by l_ints) (by decide)); conv => whnf) | (refine ⟨⟨by decide, by decide, by decide⟩, ?_⟩; conv => whnf) | (refine ⟨⟨by decide, by decide, by omega⟩, ?_⟩; conv => whnf) | (refine ⟨small_sz (Nat.le_of_ble_eq_true rfl), ?_⟩; conv => whnf) | fail))
        exact q
      · have h := fun z => (of_decide_eq_false h) ((e2 _ rfl).mpr z)
        rw [if_neg (fun z => h z.2), if_neg (fun z => by omega), if_neg (fun z => by omega)] at h2
        have n1 : ¬ 0 < lead b w := by omega
        have n2 : ¬ lead b w < 0 := by omega
        conv => whnf
        refine wIf.mk (fun h => absurd (of_decide_eq_true h) n1) (fun _ => ?_)
        conv => whnf
        refine wIf_ff ?_
        conv => whnf
        refine wIf.mk (fun h => absurd (of_decide_eq_true h) n2) (fun _ => ?_)
        conv => whnf
        refine wIf_ff ?_
        exact go _ _ _ _ _ h2 h5 h6
    have hd : lead b w ≠ 0 := of_decide_eq_false hd
    have hk : lk (ws.take i) e n b / (lead b w : Rat) = Rat.divInt (LkI (ws.take i) e n b) ((plc e n).2.2 * lead b w) := lk_div _ _ _ hd
    have rq := lkd_rb htl htk ow hp hbb hd
    rw [if_neg (fun z => hd z.1)] at h2
    rcases Int.lt_or_gt_of_ne hd with hs | hs
    · rw [if_neg (c := 0 < lead b w ∧ _) (fun z => by omega)] at h2
      have n1 : ¬ 0 < lead b w := by omega
      have pz : 0 < -(plc e n).2.2 * lead b w := by rw [Int.neg_mul]; have := Int.mul_neg_of_pos_of_neg hz hs; omega
      have hk2 : lk (ws.take i) e n b / (lead b w : Rat) = Rat.divInt (-LkI (ws.take i) e n b) (-(plc e n).2.2 * lead b w) := by rw [hk, Int.neg_mul, Rat.neg_divInt_neg]
      conv => whnf
      refine wIf_ff ?_
      conv => whnf
      refine wIf.mk (fun h => absurd (of_decide_eq_true h) n1) (fun _ => ?_)
      conv => whnf
      refine wIf_ff ?_
      conv => whnf
      refine wIf.mk (fun _ => ?_) (fun h => absurd hs (of_decide_eq_false h))
      conv => whnf
      refine ⟨mul_ok hp.2.2.neg ldb (by decide), ?_⟩
      ((conv => whnf); repeat' (first | (refine wIf_tt ?_; conv => whnf) | (refine wIf_ff ?_; conv => whnf) | (refine wIf.mk (fun hif => (have hif := of_decide_eq_true hif; ?_)) (fun hif => (have hif := of_decide_eq_false hif; ?_)) <;> (conv => whnf)) | (refine wIf_not ?_) | (refine ⟨(by decide : (_ : Int) ≠ 0), fun w _ hw => ?_⟩; replace hw := hw (by decide); conv => whnf) | (refine ⟨(by decide : (_ : Int) ≠ 0), div_lit (by decide), fun w _ hw => ?_⟩; replace hw := hw (by decide); conv => whnf) | (refine eq_rD ?_; conv => whnf) | (refine eq_ts ?_; conv => whnf) | (refine ne_ts ?_; conv => whnf) | (refine ne_rD ?_; conv => whnf) | (refine eq_vD ?_; conv => whnf) | (refine ne_vD ?_; conv => whnf) | (refine ⟨isi_ok rfl, ?_⟩; conv => whnf) | (apply wMulS.mk; (first | exact mul_l (by decide) (by decide) | exact mul_r (by decide) (by decide) | exact mul_ok (by l_ints) (by l_ints) (by decide)); conv => whnf) | (refine ⟨⟨by decide, by decide, by decide⟩, ?_⟩; conv => whnf) | (refine ⟨⟨by decide, by decide, by omega⟩, ?_⟩; conv => whnf) | (refine ⟨small_sz (Nat.le_of_ble_eq_true rfl), ?_⟩; conv => whnf) | fail))
      refine bf (-LkI (ws.take i) e n b) (-(plc e n).2.2 * lead b w) g.num g.den _ (bL.neg.mono (by decide)) (bz2.mono (by decide)) (h6.1.mono (by decide)) (h6.2.mono (by decide)) ?_
      conv => whnf
      refine wIf.mk (fun h => ?_) (fun h => ?_)
      · have h := (before_iff2 pz).mp (of_decide_eq_true h)
        rw [← hk2] at h
        rw [if_pos ⟨hs, h⟩] at h2
        conv => whnf
        refine ⟨mul_ok hp.2.2.neg ldb (by decide), ?_⟩
        ((conv => whnf); repeat' (first | (refine wIf_tt ?_; conv => whnf) | (refine wIf_ff ?_; conv => whnf) | (refine wIf.mk (fun hif => (have hif := of_decide_eq_true hif; ?_)) (fun hif => (have hif := of_decide_eq_false hif; ?_)) <;> (conv => whnf)) | (refine wIf_not ?_) | (refine ⟨(by decide : (_ : Int) ≠ 0), fun w _ hw => ?_⟩; replace hw := hw (by decide); conv => whnf) | (refine ⟨(by decide : (_ : Int) ≠ 0), div_lit (by decide), fun w _ hw => ?_⟩; replace hw := hw (by decide); conv => whnf) | (refine eq_rD ?_; conv => whnf) | (refine eq_ts ?_; conv => whnf) | (refine ne_ts ?_; conv => whnf) | (refine ne_rD ?_; conv => whnf) | (refine eq_vD ?_; conv => whnf) | (refine ne_vD ?_; conv => whnf) | (refine ⟨isi_ok rfl, ?_⟩; conv => whnf) | (apply wMulS.mk; (first | exact mul_l (by decide) (by decide) | exact mul_r (by decide) (by decide) | exact mul_ok (by l_ints) (by l_ints) (by decide)); conv => whnf) | (refine ⟨⟨by decide, by decide, by decide⟩, ?_⟩; conv => whnf) | (refine ⟨⟨by decide, by decide, by omega⟩, ?_⟩; conv => whnf) | (refine ⟨small_sz (Nat.le_of_ble_eq_true rfl), ?_⟩; conv => whnf) | fail))
        refine low2 (a := -LkI (ws.take i) e n b) (b := -(plc e n).2.2 * lead b w) g80 pz (bz2.mono (by decide)) ?_
        rw [← hk2]
        conv => whnf
        exact go _ _ _ _ _ h2 h5 rq
      · have h := fun z => (of_decide_eq_false h) ((before_iff2 pz).mpr z)
        rw [← hk2] at h
        rw [if_neg (fun z => h z.2)] at h2
        exact go _ _ _ _ _ h2 h5 h6
    · rw [if_neg (c := lead b w < 0 ∧ _) (fun z => by omega)] at h2
      have n2 : ¬ lead b w < 0 := by omega
      have pz : 0 < (plc e n).2.2 * lead b w := Int.mul_pos hz hs
      conv => whnf
      refine wIf_ff ?_
      conv => whnf
      refine wIf.mk (fun _ => ?_) (fun h => absurd hs (of_decide_eq_false h))
      conv => whnf
      refine ⟨mul_ok hp.2.2 ldb (by decide), ?_⟩
      ((conv => whnf); repeat' (first | (refine wIf_tt ?_; conv => whnf) | (refine wIf_ff ?_; conv => whnf) | (refine wIf.mk (fun hif => (have hif := of_decide_eq_true hif; ?_)) (fun hif => (have hif := of_decide_eq_false hif; ?_)) <;> (conv => whnf)) | (refine wIf_not ?_) | (refine ⟨(by decide : (_ : Int) ≠ 0), fun w _ hw => ?_⟩; replace hw := hw (by decide); conv => whnf) | (refine ⟨(by decide : (_ : Int) ≠ 0), div_lit (by decide), fun w _ hw => ?_⟩; replace hw := hw (by decide); conv => whnf) | (refine eq_rD ?_; conv => whnf) | (refine eq_ts ?_; conv => whnf) | (refine ne_ts ?_; conv => whnf) | (refine ne_rD ?_; conv => whnf) | (refine eq_vD ?_; conv => whnf) | (refine ne_vD ?_; conv => whnf) | (refine ⟨isi_ok rfl, ?_⟩; conv => whnf) | (apply wMulS.mk; (first | exact mul_l (by decide) (by decide) | exact mul_r (by decide) (by decide) | exact mul_ok (by l_ints) (by l_ints) (by decide)); conv => whnf) | (refine ⟨⟨by decide, by decide, by decide⟩, ?_⟩; conv => whnf) | (refine ⟨⟨by decide, by decide, by omega⟩, ?_⟩; conv => whnf) | (refine ⟨small_sz (Nat.le_of_ble_eq_true rfl), ?_⟩; conv => whnf) | fail))
      refine bf l.num l.den (LkI (ws.take i) e n b) ((plc e n).2.2 * lead b w) _ (h5.1.mono (by decide)) (h5.2.mono (by decide)) (bL.mono (by decide)) (bz.mono (by decide)) ?_
      conv => whnf
      refine wIf.mk (fun h => ?_) (fun h => ?_)
      · have h := (before_iff pz).mp (of_decide_eq_true h)
        rw [← hk] at h
        rw [if_pos ⟨hs, h⟩] at h2
        conv => whnf
        refine ⟨mul_ok hp.2.2 ldb (by decide), ?_⟩
        ((conv => whnf); repeat' (first | (refine wIf_tt ?_; conv => whnf) | (refine wIf_ff ?_; conv => whnf) | (refine wIf.mk (fun hif => (have hif := of_decide_eq_true hif; ?_)) (fun hif => (have hif := of_decide_eq_false hif; ?_)) <;> (conv => whnf)) | (refine wIf_not ?_) | (refine ⟨(by decide : (_ : Int) ≠ 0), fun w _ hw => ?_⟩; replace hw := hw (by decide); conv => whnf) | (refine ⟨(by decide : (_ : Int) ≠ 0), div_lit (by decide), fun w _ hw => ?_⟩; replace hw := hw (by decide); conv => whnf) | (refine eq_rD ?_; conv => whnf) | (refine eq_ts ?_; conv => whnf) | (refine ne_ts ?_; conv => whnf) | (refine ne_rD ?_; conv => whnf) | (refine eq_vD ?_; conv => whnf) | (refine ne_vD ?_; conv => whnf) | (refine ⟨isi_ok rfl, ?_⟩; conv => whnf) | (apply wMulS.mk; (first | exact mul_l (by decide) (by decide) | exact mul_r (by decide) (by decide) | exact mul_ok (by l_ints) (by l_ints) (by decide)); conv => whnf) | (refine ⟨⟨by decide, by decide, by decide⟩, ?_⟩; conv => whnf) | (refine ⟨⟨by decide, by decide, by omega⟩, ?_⟩; conv => whnf) | (refine ⟨small_sz (Nat.le_of_ble_eq_true rfl), ?_⟩; conv => whnf) | fail))
        refine low2 (a := LkI (ws.take i) e n b) (b := (plc e n).2.2 * lead b w) g80 pz (bz.mono (by decide)) ?_
        rw [← hk]
        conv => whnf
        refine wIf.mk (fun h => absurd (of_decide_eq_true h) n2) (fun _ => ?_)
        conv => whnf
        refine wIf_ff ?_
        exact go _ _ _ _ _ h2 rq h6
      · have h := fun z => (of_decide_eq_false h) ((before_iff pz).mpr z)
        rw [← hk] at h
        rw [if_neg (fun z => h z.2)] at h2
        conv => whnf
        refine wIf.mk (fun h => absurd (of_decide_eq_true h) n2) (fun _ => ?_)
        conv => whnf
        refine wIf_ff ?_
        exact go _ _ _ _ _ h2 h5 h6
end DL
end
section
namespace DL
def m_law_8 : Ss := (.cons (.set 1 (.bin .Add (.sl (.call 47 (.cons (.v 0) .nil)) .nil (.cons (.int 11) .nil)) (.tup (.cons (.tup (.cons (.tup (.cons (.tup (.cons (.int 0) (.cons (.int 0) .nil))) .nil)) (.cons (.tup (.cons (.int 0) (.cons (.int 0) .nil))) .nil))) .nil)))) (.cons (.frz 1) (.cons (.for_ (.nm 2) (.rng1 (.bi .min2 (.cons (.int 8) (.cons (.bi .len (.cons (.v 1) .nil)) .nil)))) (.cons (.set 3 (.bin .Add (.call 42 (.cons (.v 0) (.cons (.bin .Mult (.int 2) (.v 2)) .nil))) (.v 2))) (.cons (.set 4 (.call 93 (.cons (.sl (.v 1) .nil (.cons (.bin .Add (.v 2) (.int 1)) .nil)) (.cons (.v 3) (.cons (.call 94 (.cons (.v 0) .nil)) .nil))))) (.cons (.for_ (.nm 5) (.rng1 (.int 3)) (.cons (.set 6 (.call 97 (.cons (.bin .Add (.v 3) (.bin .Mult (.int 1000) (.v 5))) .nil))) (.cons (.set 7 (.call 79 (.cons (.v 1) (.cons (.v 2) (.cons (.v 4) (.cons (.v 6) .nil)))))) (.cons (.ifs (.not (.call 87 (.cons (.v 7) (.cons (.call 96 (.cons (.v 1) (.cons (.v 2) (.cons (.v 4) (.cons (.v 6) .nil))))) .nil)))) (.cons (.ret (.bl false)) .nil) .nil) .nil)))) .nil)))) (.cons (.ret (.bl true)) .nil))))
end DL
end
section
set_option maxRecDepth 100000
set_option maxHeartbeats 4000000
set_option exponentiation.threshold 100000
namespace DL
open PySem L2
local macro_rules | `(tactic| l_ints) => `(tactic| first | (assumption) | (apply Bd.neg; l_ints) | (apply Bd.mul <;> l_ints) | (exact bd40 (by omega) (by omega)) | (apply Bd.add <;> l_ints) | (apply Bd.sub <;> l_ints) | (exact bd130 (by omega) (by omega)) | (exact bd210 (by omega) (by omega)) | (exact bd_self _) | fail)
theorem okS_ans (n : Nat) (o : Option (Rat × Rat)) : okS (n + 3) (ansD o) := by
  cases o with
  | none => exact trivial
  | some p =>
    obtain ⟨l, g⟩ := p
    refine ⟨by simp, fun d hd => ?_⟩
    simp at hd
    have h : ∀ r : Rat, okS (n + 2) (rD r) := fun r => ⟨by simp, fun d hd => by
      simp at hd
      rcases hd with h | h <;> subst h <;> exact trivial⟩
    rcases hd with h1 | h1 <;> subst h1
    · exact h l
    · exact h g
theorem cut_tk1 {α : Type} {f : α → D} (xs : List α) (j : Nat) : cutD (xs.map f) none (some ((j : Int) + 1)) = (xs.take (j + 1)).map f := cut_tk xs (j + 1)
def sp_law_8 : DSp := fun ds Q X => ∃ (ns : List Int), ds = [.list (ns.map .int)] ∧ ns.length ≤ 63 ∧ Q (.d (.bool true))
theorem p_law_8 {G : Nat → DSp} (g47 : G 47 = sp_law_watches) (g42 : G 42 = sp_law_cell_at) (g93 : G 93 = sp_law_goal) (g94 : G 94 = sp_law_size) (g97 : G 97 = sp_law_bearings) (g79 : G 79 = sp_barred_from) (g87 : G 87 = sp_law_same_2 5) (g96 : G 96 = sp_law_left) : FnW G 8 1 m_law_8 sp_law_8 := by
  intro ds Q X ⟨ns, e, hn, q⟩
  subst e
  refine ⟨rfl, ?_⟩
  conv => whnf
  refine gC g47 ⟨ns, rfl, fun ws0 hl0 hw0 => ?_⟩
  have hc : cutD (ws0.map wtD) none (some 11) = (ws0.take 11).map wtD := cut_tk ws0 11
  ((conv => whnf); repeat' (first | (refine wIf_tt ?_; conv => whnf) | (refine wIf_ff ?_; conv => whnf) | (refine wIf.mk (fun hif => (have hif := of_decide_eq_true hif; ?_)) (fun hif => (have hif := of_decide_eq_false hif; ?_)) <;> (conv => whnf)) | (refine wIf_not ?_) | (refine ⟨(by decide : (_ : Int) ≠ 0), fun w _ hw => ?_⟩; replace hw := hw (by decide); conv => whnf) | (refine ⟨(by decide : (_ : Int) ≠ 0), div_lit (by decide), fun w _ hw => ?_⟩; replace hw := hw (by decide); conv => whnf) | (refine eq_rD ?_; conv => whnf) | (refine eq_ts ?_; conv => whnf) | (refine ne_ts ?_; conv => whnf) | (refine ne_rD ?_; conv => whnf) | (refine eq_vD ?_; conv => whnf) | (refine ne_vD ?_; conv => whnf) | (refine ⟨isi_ok rfl, ?_⟩; conv => whnf) | (apply wMulS.mk; (first | exact mul_l (by decide) (by decide) | exact mul_r (by decide) (by decide) | exact mul_ok (by l_ints) (by l_ints) (by decide)); conv => whnf) | (refine ⟨⟨by decide, by decide, by decide⟩, ?_⟩; conv => whnf) | (refine ⟨⟨by decide, by decide, by omega⟩, ?_⟩; conv => whnf) | (refine ⟨small_sz (Nat.le_of_ble_eq_true rfl), ?_⟩; conv => whnf) | fail))
  rw [hc]
  obtain ⟨ws, hws⟩ : ∃ ws : List Wt, ws = ws0.take 11 ++ [([(0, 0)], (0, 0))] := ⟨_, rfl⟩
  have ew : (ws0.take 11).map wtD ++ [.tuple [.tuple [.tuple [.int 0, .int 0]], .tuple [.int 0, .int 0]]] = ws.map wtD := by rw [hws, List.map_append]; rfl
  have hl : ws.length ≤ 12 := by rw [hws]; simp; omega
  have z0 : VB 140 ((0 : Int), (0 : Int)) := ⟨(by decide : Bd 140 0), (by decide : Bd 140 0)⟩
  have hw : ∀ w ∈ ws, WtOk 140 12 w := fun w h => by
    rw [hws] at h
    rcases List.mem_append.mp h with h | h
    · exact hw0 w (List.mem_of_mem_take h)
    · rw [List.mem_singleton.mp h]
      exact ⟨by simp, by simp, fun v hv => by rw [List.mem_singleton.mp hv]; exact z0, z0⟩
  refine ⟨small_sz (by simp; omega), ?_⟩
  rw [ew]
  have hlen : ((ws.map wtD).length : Int) = ws.length := by simp
  conv => whnf
  have hmn : (if ((ws.map wtD).length : Int) < 8 then ((ws.map wtD).length : Int) else 8) ≤ 8 ∧ (if ((ws.map wtD).length : Int) < 8 then ((ws.map wtD).length : Int) else 8) ≤ ws.length ∧ 0 ≤ (if ((ws.map wtD).length : Int) < 8 then ((ws.map wtD).length : Int) else 8) := by split <;> omega
  obtain ⟨mn, hmn2⟩ : ∃ mn, mn = (if ((ws.map wtD).length : Int) < 8 then ((ws.map wtD).length : Int) else 8) := ⟨_, rfl⟩
  rw [← hmn2] at hmn
  have hm3 : (fun i j : Int => if j < i then j else i) 8 ((ws.map wtD).length : Int) = mn := hmn2.symm
  rw [hm3]
  refine ⟨Int.le_trans hmn.1 (by decide), ?_, ?_⟩
  · refine Int.le_trans (by decide) hmn.2.2
  conv => whnf
  refine ⟨rfl, ?_⟩
  refine rng_ind (fun i ρ => ∃ (x y z u v t : Option DL.R), ρ = [some (.d (.list (ns.map .int))), some (.d (watD ws)), x, y, z, u, v, t]) mn.toNat ?_ ?_ _ ⟨none, none, none, none, none, none, rfl⟩
  · rintro ρ ⟨x, y, z, u, v, t, rfl⟩
    conv => whnf
    exact q
  rintro i ρ hi ⟨x, y, z, u, v, t, rfl⟩ nx hnx
  have hi2 : i < ws.length := by omega
  obtain ⟨w, hwi⟩ : ∃ w, ws[i]? = some w := ⟨_, List.getElem?_eq_getElem hi2⟩
  ((conv => whnf); repeat' (first | (refine wIf_tt ?_; conv => whnf) | (refine wIf_ff ?_; conv => whnf) | (refine wIf.mk (fun hif => (have hif := of_decide_eq_true hif; ?_)) (fun hif => (have hif := of_decide_eq_false hif; ?_)) <;> (conv => whnf)) | (refine wIf_not ?_) | (refine ⟨(by decide : (_ : Int) ≠ 0), fun w _ hw => ?_⟩; replace hw := hw (by decide); conv => whnf) | (refine ⟨(by decide : (_ : Int) ≠ 0), div_lit (by decide), fun w _ hw => ?_⟩; replace hw := hw (by decide); conv => whnf) | (refine eq_rD ?_; conv => whnf) | (refine eq_ts ?_; conv => whnf) | (refine ne_ts ?_; conv => whnf) | (refine ne_rD ?_; conv => whnf) | (refine eq_vD ?_; conv => whnf) | (refine ne_vD ?_; conv => whnf) | (refine ⟨isi_ok rfl, ?_⟩; conv => whnf) | (apply wMulS.mk; (first | exact mul_l (by decide) (by decide) | exact mul_r (by decide) (by decide) | exact mul_ok (by l_ints) (by l_ints) (by decide)); conv => whnf) | (refine ⟨⟨by decide, by decide, by decide⟩, ?_⟩; conv => whnf) | (refine ⟨⟨by decide, by decide, by omega⟩, ?_⟩; conv => whnf) | (refine ⟨small_sz (Nat.le_of_ble_eq_true rfl), ?_⟩; conv => whnf) | fail))
  refine gC g42 ⟨ns, 2 * i, by simp, fun c _ => ?_⟩
  conv => whnf
  rw [cut_tk1]
  refine gC g94 ⟨ns, rfl, fun f hf1 hf2 => ?_⟩
  conv => whnf
  refine gC g93 ⟨ws.take (i + 1), c + i, f, rfl, by rw [List.length_take]; omega, fun u hu => hw u (List.mem_of_mem_take hu), by omega, hf2, fun e n hp => ?_⟩
  have hpb : PB 3400 e n := (hp.bd (m := 171) (Nat.pow_lt_pow_right (by decide) (by decide))).mono (by decide)
  conv => whnf
  refine ⟨by decide, by decide, ?_⟩
  conv => whnf
  refine ⟨rfl, ?_⟩
  refine rng_ind (fun j ρ => ∃ (u v t : Option DL.R), ρ = [some (.d (.list (ns.map .int))), some (.d (watD ws)), some (.d (.int i)), some (.d (.int (c + i))), some (.d (PD e n)), u, v, t]) 3 ?_ ?_ _ ⟨_, _, _, rfl⟩
  · rintro ρ ⟨u, v, t, rfl⟩
    exact hnx _ ⟨_, _, _, _, _, _, rfl⟩
  rintro j ρ hj ⟨u, v, t, rfl⟩ nx2 hnx2
  ((conv => whnf); repeat' (first | (refine wIf_tt ?_; conv => whnf) | (refine wIf_ff ?_; conv => whnf) | (refine wIf.mk (fun hif => (have hif := of_decide_eq_true hif; ?_)) (fun hif => (have hif := of_decide_eq_false hif; ?_)) <;> (conv => whnf)) | (refine wIf_not ?_) | (refine ⟨(by decide : (_ : Int) ≠ 0), fun w _ hw => ?_⟩; replace hw := hw (by decide); conv => whnf) | (refine ⟨(by decide : (_ : Int) ≠ 0), div_lit (by decide), fun w _ hw => ?_⟩; replace hw := hw (by decide); conv => whnf) | (refine eq_rD ?_; conv => whnf) | (refine eq_ts ?_; conv => whnf) | (refine ne_ts ?_; conv => whnf) | (refine ne_rD ?_; conv => whnf) | (refine eq_vD ?_; conv => whnf) | (refine ne_vD ?_; conv => whnf) | (refine ⟨isi_ok rfl, ?_⟩; conv => whnf) | (apply wMulS.mk; (first | exact mul_l (by decide) (by decide) | exact mul_r (by decide) (by decide) | exact mul_ok (by l_ints) (by l_ints) (by decide)); conv => whnf) | (refine ⟨⟨by decide, by decide, by decide⟩, ?_⟩; conv => whnf) | (refine ⟨⟨by decide, by decide, by omega⟩, ?_⟩; conv => whnf) | (refine ⟨small_sz (Nat.le_of_ble_eq_true rfl), ?_⟩; conv => whnf) | fail))
  refine gC g97 ⟨_, rfl, fun bs hbs => ?_⟩
  conv => whnf
  refine gC g79 ⟨ws, i, w, e, n, bs, rfl, hl, hw, hwi, hpb, hbs, ?_⟩
  conv => whnf
  refine gC g96 ⟨ws, i, w, e, n, bs, rfl, hl, hw, hwi, hpb, hbs, ?_⟩
  conv => whnf
  refine gC g87 ⟨_, rfl, okS_ans 2 _, ?_⟩
  ((conv => whnf); repeat' (first | (refine wIf_tt ?_; conv => whnf) | (refine wIf_ff ?_; conv => whnf) | (refine wIf.mk (fun hif => (have hif := of_decide_eq_true hif; ?_)) (fun hif => (have hif := of_decide_eq_false hif; ?_)) <;> (conv => whnf)) | (refine wIf_not ?_) | (refine ⟨(by decide : (_ : Int) ≠ 0), fun w _ hw => ?_⟩; replace hw := hw (by decide); conv => whnf) | (refine ⟨(by decide : (_ : Int) ≠ 0), div_lit (by decide), fun w _ hw => ?_⟩; replace hw := hw (by decide); conv => whnf) | (refine eq_rD ?_; conv => whnf) | (refine eq_ts ?_; conv => whnf) | (refine ne_ts ?_; conv => whnf) | (refine ne_rD ?_; conv => whnf) | (refine eq_vD ?_; conv => whnf) | (refine ne_vD ?_; conv => whnf) | (refine ⟨isi_ok rfl, ?_⟩; conv => whnf) | (apply wMulS.mk; (first | exact mul_l (by decide) (by decide) | exact mul_r (by decide) (by decide) | exact mul_ok (by l_ints) (by l_ints) (by decide)); conv => whnf) | (refine ⟨⟨by decide, by decide, by decide⟩, ?_⟩; conv => whnf) | (refine ⟨⟨by decide, by decide, by omega⟩, ?_⟩; conv => whnf) | (refine ⟨small_sz (Nat.le_of_ble_eq_true rfl), ?_⟩; conv => whnf) | fail))
  exact hnx2 _ ⟨_, _, _, rfl⟩
end DL
end
section
set_option maxRecDepth 100000
set_option maxHeartbeats 0
namespace DL
open PySem PySem.Spec PyProof.Rows L2
def top (i : Nat) : Stmt := PySem.Challenge.pw_closehaul_k29_what_bearings_leave.main.body.getD i (.Pass ⟨0, 0, 0, 0⟩)
abbrev st_dot_of : Stmt := top 1
theorem sc_dot_of : FnScope ["one", "other"] ["one", "other"] (defScope st_dot_of) := ⟨rfl, rfl, rfl, by decide +kernel, rfl, by decide +kernel, by decide +kernel⟩
def dd_dot_of : He.DefD := ⟨("dot_of", none), "dot_of", "dot_of", defArgs st_dot_of, defBody st_dot_of, defScope st_dot_of, [], []⟩
abbrev st_farthest : Stmt := top 2
theorem sc_farthest : FnScope ["wind", "bearing", "heading"] ["wind", "bearing"] (defScope st_farthest) := ⟨rfl, rfl, rfl, by decide +kernel, rfl, by decide +kernel, by decide +kernel⟩
def dd_farthest : He.DefD := ⟨("farthest", none), "farthest", "farthest", defArgs st_farthest, defBody st_farthest, defScope st_farthest, [], []⟩
abbrev st_common_measure : Stmt := top 7
theorem sc_common_measure : FnScope ["one", "other"] ["one", "other"] (defScope st_common_measure) := ⟨rfl, rfl, rfl, by decide +kernel, rfl, by decide +kernel, by decide +kernel⟩
def dd_common_measure : He.DefD := ⟨("common_measure", none), "common_measure", "common_measure", defArgs st_common_measure, defBody st_common_measure, defScope st_common_measure, [], []⟩
abbrev st_lowest : Stmt := top 8
theorem sc_lowest : FnScope ["top", "bottom", "part"] ["top", "bottom"] (defScope st_lowest) := ⟨rfl, rfl, rfl, by decide +kernel, rfl, by decide +kernel, by decide +kernel⟩
def dd_lowest : He.DefD := ⟨("lowest", none), "lowest", "lowest", defArgs st_lowest, defBody st_lowest, defScope st_lowest, [], []⟩
abbrev st_taken : Stmt := top 9
theorem sc_taken : FnScope ["one", "other"] ["one", "other"] (defScope st_taken) := ⟨rfl, rfl, rfl, by decide +kernel, rfl, by decide +kernel, by decide +kernel⟩
def dd_taken : He.DefD := ⟨("taken", none), "taken", "taken", defArgs st_taken, defBody st_taken, defScope st_taken, [], []⟩
abbrev st_divided : Stmt := top 10
theorem sc_divided : FnScope ["one", "other"] ["one", "other"] (defScope st_divided) := ⟨rfl, rfl, rfl, by decide +kernel, rfl, by decide +kernel, by decide +kernel⟩
def dd_divided : He.DefD := ⟨("divided", none), "divided", "divided", defArgs st_divided, defBody st_divided, defScope st_divided, [], []⟩
abbrev st_is_before : Stmt := top 11
theorem sc_is_before : FnScope ["one", "other"] ["one", "other"] (defScope st_is_before) := ⟨rfl, rfl, rfl, by decide +kernel, rfl, by decide +kernel, by decide +kernel⟩
def dd_is_before : He.DefD := ⟨("is_before", none), "is_before", "is_before", defArgs st_is_before, defBody st_is_before, defScope st_is_before, [], []⟩
abbrev st_along : Stmt := top 13
theorem sc_along : FnScope ["bearing", "place"] ["bearing", "place"] (defScope st_along) := ⟨rfl, rfl, rfl, by decide +kernel, rfl, by decide +kernel, by decide +kernel⟩
def dd_along : He.DefD := ⟨("along", none), "along", "along", defArgs st_along, defBody st_along, defScope st_along, [], []⟩
abbrev st_farthest_by : Stmt := top 15
theorem sc_farthest_by : FnScope ["watches", "bearing", "wind", "stream"] ["watches", "bearing"] (defScope st_farthest_by) := ⟨rfl, rfl, rfl, by decide +kernel, rfl, by decide +kernel, by decide +kernel⟩
def dd_farthest_by : He.DefD := ⟨("farthest_by", none), "farthest_by", "farthest_by", defArgs st_farthest_by, defBody st_farthest_by, defScope st_farthest_by, [], []⟩
abbrev st_bounds_by : Stmt := top 19
theorem sc_bounds_by : FnScope ["watches", "number", "place", "bearing", "lacking", "drift", "bound"] ["watches", "number", "place", "bearing"] (defScope st_bounds_by) := ⟨rfl, rfl, rfl, by decide +kernel, rfl, by decide +kernel, by decide +kernel⟩
def dd_bounds_by : He.DefD := ⟨("bounds_by", none), "bounds_by", "bounds_by", defArgs st_bounds_by, defBody st_bounds_by, defScope st_bounds_by, [], []⟩
abbrev st_barred_from : Stmt := top 20
theorem sc_barred_from : FnScope ["watches", "number", "place", "bearings", "least", "greatest", "bearing", "bounds"] ["watches", "number", "place", "bearings"] (defScope st_barred_from) := ⟨rfl, rfl, rfl, by decide +kernel, rfl, by decide +kernel, by decide +kernel⟩
def dd_barred_from : He.DefD := ⟨("barred_from", none), "barred_from", "barred_from", defArgs st_barred_from, defBody st_barred_from, defScope st_barred_from, [], []⟩
abbrev st_law_cell_at : Stmt := top 22
theorem sc_law_cell_at : FnScope ["script", "k"] ["script", "k"] (defScope st_law_cell_at) := ⟨rfl, rfl, rfl, by decide +kernel, rfl, by decide +kernel, by decide +kernel⟩
def dd_law_cell_at : He.DefD := ⟨("_law_cell_at", none), "_law_cell_at", "_law_cell_at", defArgs st_law_cell_at, defBody st_law_cell_at, defScope st_law_cell_at, [], []⟩
abbrev st_law_draw : Stmt := top 23
theorem sc_law_draw : FnScope ["cell", "k", "many", "prime", "mixed"] ["cell", "k", "many"] (defScope st_law_draw) := ⟨rfl, rfl, rfl, by decide +kernel, rfl, by decide +kernel, by decide +kernel⟩
def dd_law_draw : He.DefD := ⟨("_law_draw", none), "_law_draw", "_law_draw", defArgs st_law_draw, defBody st_law_draw, defScope st_law_draw, [], []⟩
abbrev st_law_vector_2 : Stmt := top 24
theorem sc_law_vector_2 : FnScope ["cell", "far", "line", "times"] ["cell", "far", "line"] (defScope st_law_vector_2) := ⟨rfl, rfl, rfl, by decide +kernel, rfl, by decide +kernel, by decide +kernel⟩
def dd_law_vector_2 : He.DefD := ⟨("_law_vector", none), "_law_vector", "_law_vector", defArgs st_law_vector_2, defBody st_law_vector_2, defScope st_law_vector_2, [], []⟩
abbrev st_law_free_vector : Stmt := top 25
theorem sc_law_free_vector : FnScope ["cell", "far", "wide"] ["cell", "far"] (defScope st_law_free_vector) := ⟨rfl, rfl, rfl, by decide +kernel, rfl, by decide +kernel, by decide +kernel⟩
def dd_law_free_vector : He.DefD := ⟨("_law_free_vector", none), "_law_free_vector", "_law_free_vector", defArgs st_law_free_vector, defBody st_law_free_vector, defScope st_law_free_vector, [], []⟩
abbrev st_law_free_watches : Stmt := top 26
theorem sc_law_free_watches : FnScope ["script", "far", "watches", "at", "size", "first", "wind", "cell"] ["script"] (defScope st_law_free_watches) := ⟨rfl, rfl, rfl, by decide +kernel, rfl, by decide +kernel, by decide +kernel⟩
def dd_law_free_watches : He.DefD := ⟨("_law_free_watches", none), "_law_free_watches", "_law_free_watches", defArgs st_law_free_watches, defBody st_law_free_watches, defScope st_law_free_watches, [], []⟩
abbrev st_law_watches : Stmt := top 27
theorem sc_law_watches : FnScope ["script", "base", "far", "line", "most", "watches", "at", "size", "wind", "cell", "stream"] ["script"] (defScope st_law_watches) := ⟨rfl, rfl, rfl, by decide +kernel, rfl, by decide +kernel, by decide +kernel⟩
def dd_law_watches : He.DefD := ⟨("_law_watches", none), "_law_watches", "_law_watches", defArgs st_law_watches, defBody st_law_watches, defScope st_law_watches, [], []⟩
abbrev st_law_lowest_2 : Stmt := top 28
theorem sc_law_lowest_2 : FnScope ["row", "least", "number", "one", "rest"] ["row"] (defScope st_law_lowest_2) := ⟨rfl, rfl, rfl, by decide +kernel, rfl, by decide +kernel, by decide +kernel⟩
def dd_law_lowest_2 : He.DefD := ⟨("_law_lowest", none), "_law_lowest", "_law_lowest", defArgs st_law_lowest_2, defBody st_law_lowest_2, defScope st_law_lowest_2, [], []⟩
abbrev st_law_sum_2 : Stmt := top 29
theorem sc_law_sum_2 : FnScope ["one", "other"] ["one", "other"] (defScope st_law_sum_2) := ⟨rfl, rfl, rfl, by decide +kernel, rfl, by decide +kernel, by decide +kernel⟩
def dd_law_sum_2 : He.DefD := ⟨("_law_sum", none), "_law_sum", "_law_sum", defArgs st_law_sum_2, defBody st_law_sum_2, defScope st_law_sum_2, [], []⟩
abbrev st_law_dot : Stmt := top 30
theorem sc_law_dot : FnScope ["one", "other"] ["one", "other"] (defScope st_law_dot) := ⟨rfl, rfl, rfl, by decide +kernel, rfl, by decide +kernel, by decide +kernel⟩
def dd_law_dot : He.DefD := ⟨("_law_dot", none), "_law_dot", "_law_dot", defArgs st_law_dot, defBody st_law_dot, defScope st_law_dot, [], []⟩
abbrev st_law_far : Stmt := top 31
theorem sc_law_far : FnScope ["watches", "bearing", "total", "wind", "stream", "heading"] ["watches", "bearing"] (defScope st_law_far) := ⟨rfl, rfl, rfl, by decide +kernel, rfl, by decide +kernel, by decide +kernel⟩
def dd_law_far : He.DefD := ⟨("_law_far", none), "_law_far", "_law_far", defArgs st_law_far, defBody st_law_far, defScope st_law_far, [], []⟩
abbrev st_law_same_2 : Stmt := top 32
theorem sc_law_same_2 : FnScope ["found", "due", "k"] ["found", "due"] (defScope st_law_same_2) := ⟨rfl, rfl, rfl, by decide +kernel, rfl, by decide +kernel, by decide +kernel⟩
def dd_law_same_2 : He.DefD := ⟨("_law_same", none), "_law_same", "_law_same", defArgs st_law_same_2, defBody st_law_same_2, defScope st_law_same_2, [], []⟩
abbrev st_law_parts : Stmt := top 33
theorem sc_law_parts : FnScope ["cell", "many", "bottom", "cut", "one", "two", "three", "rest", "tops", "k"] ["cell", "many", "bottom"] (defScope st_law_parts) := ⟨rfl, rfl, rfl, by decide +kernel, rfl, by decide +kernel, by decide +kernel⟩
def dd_law_parts : He.DefD := ⟨("_law_parts", none), "_law_parts", "_law_parts", defArgs st_law_parts, defBody st_law_parts, defScope st_law_parts, [], []⟩
abbrev st_law_course : Stmt := top 34
theorem sc_law_course : FnScope ["watches", "cell", "course", "k", "bottom", "tops", "j"] ["watches", "cell"] (defScope st_law_course) := ⟨rfl, rfl, rfl, by decide +kernel, rfl, by decide +kernel, by decide +kernel⟩
def dd_law_course : He.DefD := ⟨("_law_course", none), "_law_course", "_law_course", defArgs st_law_course, defBody st_law_course, defScope st_law_course, [], []⟩
abbrev st_law_add : Stmt := top 35
theorem sc_law_add : FnScope ["place", "vector", "share", "top", "x", "y"] ["place", "vector", "share"] (defScope st_law_add) := ⟨rfl, rfl, rfl, by decide +kernel, rfl, by decide +kernel, by decide +kernel⟩
def dd_law_add : He.DefD := ⟨("_law_add", none), "_law_add", "_law_add", defArgs st_law_add, defBody st_law_add, defScope st_law_add, [], []⟩
abbrev st_law_end_2 : Stmt := top 36
theorem sc_law_end_2 : FnScope ["watches", "course", "place", "k", "total", "j", "share"] ["watches", "course"] (defScope st_law_end_2) := ⟨rfl, rfl, rfl, by decide +kernel, rfl, by decide +kernel, by decide +kernel⟩
def dd_law_end_2 : He.DefD := ⟨("_law_end", none), "_law_end", "_law_end", defArgs st_law_end_2, defBody st_law_end_2, defScope st_law_end_2, [], []⟩
abbrev st_law_free_place : Stmt := top 37
theorem sc_law_free_place : FnScope ["cell", "far", "wide", "x", "y"] ["cell", "far"] (defScope st_law_free_place) := ⟨rfl, rfl, rfl, by decide +kernel, rfl, by decide +kernel, by decide +kernel⟩
def dd_law_free_place : He.DefD := ⟨("_law_free_place", none), "_law_free_place", "_law_free_place", defArgs st_law_free_place, defBody st_law_free_place, defScope st_law_free_place, [], []⟩
abbrev st_law_goal : Stmt := top 38
theorem sc_law_goal : FnScope ["watches", "cell", "far", "place", "way", "size", "step"] ["watches", "cell", "far"] (defScope st_law_goal) := ⟨rfl, rfl, rfl, by decide +kernel, rfl, by decide +kernel, by decide +kernel⟩
def dd_law_goal : He.DefD := ⟨("_law_goal", none), "_law_goal", "_law_goal", defArgs st_law_goal, defBody st_law_goal, defScope st_law_goal, [], []⟩
abbrev st_law_size : Stmt := top 39
theorem sc_law_size : FnScope ["script"] ["script"] (defScope st_law_size) := ⟨rfl, rfl, rfl, by decide +kernel, rfl, by decide +kernel, by decide +kernel⟩
def dd_law_size : He.DefD := ⟨("_law_size", none), "_law_size", "_law_size", defArgs st_law_size, defBody st_law_size, defScope st_law_size, [], []⟩
abbrev st_law_before : Stmt := top 40
theorem sc_law_before : FnScope ["one", "other"] ["one", "other"] (defScope st_law_before) := ⟨rfl, rfl, rfl, by decide +kernel, rfl, by decide +kernel, by decide +kernel⟩
def dd_law_before : He.DefD := ⟨("_law_before", none), "_law_before", "_law_before", defArgs st_law_before, defBody st_law_before, defScope st_law_before, [], []⟩
abbrev st_law_left : Stmt := top 41
theorem sc_law_left : FnScope ["watches", "number", "place", "bearings", "least", "most", "bearing", "lacking", "drift"] ["watches", "number", "place", "bearings"] (defScope st_law_left) := ⟨rfl, rfl, rfl, by decide +kernel, rfl, by decide +kernel, by decide +kernel⟩
def dd_law_left : He.DefD := ⟨("_law_left", none), "_law_left", "_law_left", defArgs st_law_left, defBody st_law_left, defScope st_law_left, [], []⟩
abbrev st_law_bearings : Stmt := top 42
theorem sc_law_bearings : FnScope ["cell", "found", "k", "bearing"] ["cell"] (defScope st_law_bearings) := ⟨rfl, rfl, rfl, by decide +kernel, rfl, by decide +kernel, by decide +kernel⟩
def dd_law_bearings : He.DefD := ⟨("_law_bearings", none), "_law_bearings", "_law_bearings", defArgs st_law_bearings, defBody st_law_bearings, defScope st_law_bearings, [], []⟩
abbrev st_law_8 : Stmt := top 43
theorem sc_law_8 : FnScope ["script", "watches", "number", "cell", "place", "turn", "bearings", "found"] ["script"] (defScope st_law_8) := ⟨rfl, rfl, rfl, by decide +kernel, rfl, by decide +kernel, by decide +kernel⟩
def dd_law_8 : He.DefD := ⟨("law", none), "law", "law", defArgs st_law_8, defBody st_law_8, defScope st_law_8, [], []⟩
def fnK : List He.DefD := [dd_dot_of, dd_farthest, dd_common_measure, dd_lowest, dd_taken, dd_divided, dd_is_before, dd_along, dd_farthest_by, dd_bounds_by, dd_barred_from, dd_law_cell_at, dd_law_draw, dd_law_vector_2, dd_law_free_vector, dd_law_free_watches, dd_law_watches, dd_law_lowest_2, dd_law_sum_2, dd_law_dot, dd_law_far, dd_law_same_2, dd_law_parts, dd_law_course, dd_law_add, dd_law_end_2, dd_law_free_place, dd_law_goal, dd_law_size, dd_law_before, dd_law_left, dd_law_bearings, dd_law_8]
def faK : List He.Fa := [.free "len", .free "abs", .free "max", .free "min", .free "sum", .free "all", .free "any", .free "list", .free "tuple", .free "int", .free "str", .free "isinstance", .free "range", .free "enumerate", .free "zip", .free "reversed", .free "bool", .glo "WHOLE", .glo "NOUGHT", .glo "SailError", .glo "NoFraction", .exc "SailError", .exc "NoFraction", .exm "SailError" "SailError" true, .exm "SailError" "NoFraction" false, .exm "NoFraction" "SailError" true, .exm "NoFraction" "NoFraction" true, .glo "dot_of", .glo "farthest", .glo "common_measure", .glo "lowest", .glo "taken", .glo "divided", .glo "is_before", .glo "along", .glo "farthest_by", .glo "bounds_by", .glo "barred_from", .glo "_law_cell_at", .glo "_law_draw", .glo "_law_vector", .glo "_law_free_vector", .glo "_law_free_watches", .glo "_law_watches", .glo "_law_lowest", .glo "_law_sum", .glo "_law_dot", .glo "_law_far", .glo "_law_same", .glo "_law_parts", .glo "_law_course", .glo "_law_add", .glo "_law_end", .glo "_law_free_place", .glo "_law_goal", .glo "_law_size", .glo "_law_before", .glo "_law_left", .glo "_law_bearings", .glo "law"]
def tbK : List (Str × List Int) := [("WHOLE", [1, 1]), ("NOUGHT", [0, 1])]
def fnT : Nat → Str
  | 33 => "dot_of"
  | 34 => "farthest"
  | 0 => "common_measure"
  | 1 => "lowest"
  | 9 => "taken"
  | 11 => "divided"
  | 15 => "is_before"
  | 26 => "along"
  | 41 => "farthest_by"
  | 78 => "bounds_by"
  | 79 => "barred_from"
  | 42 => "_law_cell_at"
  | 43 => "_law_draw"
  | 44 => "_law_vector"
  | 45 => "_law_free_vector"
  | 46 => "_law_free_watches"
  | 47 => "_law_watches"
  | 80 => "_law_lowest"
  | 81 => "_law_sum"
  | 48 => "_law_dot"
  | 49 => "_law_far"
  | 87 => "_law_same"
  | 86 => "_law_same"
  | 85 => "_law_same"
  | 84 => "_law_same"
  | 83 => "_law_same"
  | 82 => "_law_same"
  | 88 => "_law_parts"
  | 89 => "_law_course"
  | 90 => "_law_add"
  | 91 => "_law_end"
  | 92 => "_law_free_place"
  | 93 => "_law_goal"
  | 94 => "_law_size"
  | 95 => "_law_before"
  | 96 => "_law_left"
  | 97 => "_law_bearings"
  | 98 => "law"
  | _ => ""
def xcT : Nat → Str
  | 0 => "SailError"
  | 1 => "NoFraction"
  | _ => ""
def glT : Nat → Str
  | 3 => "WHOLE"
  | 4 => "NOUGHT"
  | _ => ""
def TK : Tb := ⟨fnT, xcT, glT, [3, 4], [], [0, 1]⟩
def GK : Nat → DSp
  | 33 => sp_dot_of
  | 34 => sp_farthest
  | 0 => sp_common_measure
  | 1 => sp_lowest
  | 9 => sp_taken
  | 11 => sp_divided
  | 15 => sp_is_before
  | 26 => sp_along
  | 41 => sp_farthest_by
  | 78 => sp_bounds_by
  | 79 => sp_barred_from
  | 42 => sp_law_cell_at
  | 43 => sp_law_draw
  | 44 => sp_law_vector_2
  | 45 => sp_law_free_vector
  | 46 => sp_law_free_watches
  | 47 => sp_law_watches
  | 80 => sp_law_lowest_2
  | 81 => sp_law_sum_2
  | 48 => sp_law_dot
  | 49 => sp_law_far
  | 87 => sp_law_same_2 5
  | 86 => sp_law_same_2 4
  | 85 => sp_law_same_2 3
  | 84 => sp_law_same_2 2
  | 83 => sp_law_same_2 1
  | 82 => sp_law_same_2 0
  | 88 => sp_law_parts
  | 89 => sp_law_course
  | 90 => sp_law_add
  | 91 => sp_law_end_2
  | 92 => sp_law_free_place
  | 93 => sp_law_goal
  | 94 => sp_law_size
  | 95 => sp_law_before
  | 96 => sp_law_left
  | 97 => sp_law_bearings
  | 98 => sp_law_8
  | _ => fun _ _ _ => False
theorem ck_dot_of : ckSs { TK with fns := [] } ["one", "other"] true (defScope st_dot_of) m_dot_of (defBody st_dot_of) = true := by decide +kernel
theorem ck_farthest : ckSs { TK with fns := [33] } ["wind", "bearing", "heading"] true (defScope st_farthest) m_farthest (defBody st_farthest) = true := by decide +kernel
theorem ck_common_measure : ckSs { TK with fns := [] } ["one", "other"] true (defScope st_common_measure) m_common_measure (defBody st_common_measure) = true := by decide +kernel
theorem ck_lowest : ckSs { TK with fns := [0] } ["top", "bottom", "part"] true (defScope st_lowest) m_lowest (defBody st_lowest) = true := by decide +kernel
theorem ck_taken : ckSs { TK with fns := [1] } ["one", "other"] true (defScope st_taken) m_taken (defBody st_taken) = true := by decide +kernel
theorem ck_divided : ckSs { TK with fns := [1] } ["one", "other"] true (defScope st_divided) m_divided (defBody st_divided) = true := by decide +kernel
theorem ck_is_before : ckSs { TK with fns := [] } ["one", "other"] true (defScope st_is_before) m_is_before (defBody st_is_before) = true := by decide +kernel
theorem ck_along : ckSs { TK with fns := [1] } ["bearing", "place"] true (defScope st_along) m_along (defBody st_along) = true := by decide +kernel
theorem ck_farthest_by : ckSs { TK with fns := [34, 33] } ["watches", "bearing", "wind", "stream"] true (defScope st_farthest_by) m_farthest_by (defBody st_farthest_by) = true := by decide +kernel
theorem ck_bounds_by : ckSs { TK with fns := [9, 26, 41, 34, 33, 15, 11] } ["watches", "number", "place", "bearing", "lacking", "drift", "bound"] true (defScope st_bounds_by) m_bounds_by (defBody st_bounds_by) = true := by decide +kernel
theorem ck_barred_from : ckSs { TK with fns := [78, 15] } ["watches", "number", "place", "bearings", "least", "greatest", "bearing", "bounds"] true (defScope st_barred_from) m_barred_from (defBody st_barred_from) = true := by decide +kernel
theorem ck_law_cell_at : ckSs { TK with fns := [] } ["script", "k"] true (defScope st_law_cell_at) m_law_cell_at (defBody st_law_cell_at) = true := by decide +kernel
theorem ck_law_draw : ckSs { TK with fns := [] } ["cell", "k", "many", "prime", "mixed"] true (defScope st_law_draw) m_law_draw (defBody st_law_draw) = true := by decide +kernel
theorem ck_law_vector_2 : ckSs { TK with fns := [43] } ["cell", "far", "line", "times"] true (defScope st_law_vector_2) m_law_vector_2 (defBody st_law_vector_2) = true := by decide +kernel
theorem ck_law_free_vector : ckSs { TK with fns := [] } ["cell", "far", "wide"] true (defScope st_law_free_vector) m_law_free_vector (defBody st_law_free_vector) = true := by decide +kernel
theorem ck_law_free_watches : ckSs { TK with fns := [45] } ["script", "far", "watches", "at", "size", "first", "wind", "cell"] true (defScope st_law_free_watches) m_law_free_watches (defBody st_law_free_watches) = true := by decide +kernel
theorem ck_law_watches : ckSs { TK with fns := [42, 46, 43, 44] } ["script", "base", "far", "line", "most", "watches", "at", "size", "wind", "cell", "stream"] true (defScope st_law_watches) m_law_watches (defBody st_law_watches) = true := by decide +kernel
theorem ck_law_lowest_2 : ckSs { TK with fns := [] } ["row", "least", "number", "one", "rest"] true (defScope st_law_lowest_2) m_law_lowest_2 (defBody st_law_lowest_2) = true := by decide +kernel
theorem ck_law_sum_2 : ckSs { TK with fns := [80] } ["one", "other"] true (defScope st_law_sum_2) m_law_sum_2 (defBody st_law_sum_2) = true := by decide +kernel
theorem ck_law_dot : ckSs { TK with fns := [] } ["one", "other"] true (defScope st_law_dot) m_law_dot (defBody st_law_dot) = true := by decide +kernel
theorem ck_law_far : ckSs { TK with fns := [48] } ["watches", "bearing", "total", "wind", "stream", "heading"] true (defScope st_law_far) m_law_far (defBody st_law_far) = true := by decide +kernel
theorem ck_law_same_2_1 : ckSs { TK with fns := [82] } ["found", "due", "k"] true (defScope st_law_same_2) (m_law_same_2 82) (defBody st_law_same_2) = true := by decide +kernel
theorem ck_law_same_2_2 : ckSs { TK with fns := [83] } ["found", "due", "k"] true (defScope st_law_same_2) (m_law_same_2 83) (defBody st_law_same_2) = true := by decide +kernel
theorem ck_law_same_2_3 : ckSs { TK with fns := [84] } ["found", "due", "k"] true (defScope st_law_same_2) (m_law_same_2 84) (defBody st_law_same_2) = true := by decide +kernel
theorem ck_law_same_2_4 : ckSs { TK with fns := [85] } ["found", "due", "k"] true (defScope st_law_same_2) (m_law_same_2 85) (defBody st_law_same_2) = true := by decide +kernel
theorem ck_law_same_2_5 : ckSs { TK with fns := [86] } ["found", "due", "k"] true (defScope st_law_same_2) (m_law_same_2 86) (defBody st_law_same_2) = true := by decide +kernel
theorem ck_law_parts : ckSs { TK with fns := [43] } ["cell", "many", "bottom", "cut", "one", "two", "three", "rest", "tops", "k"] true (defScope st_law_parts) m_law_parts (defBody st_law_parts) = true := by decide +kernel
theorem ck_law_course : ckSs { TK with fns := [43, 88, 80] } ["watches", "cell", "course", "k", "bottom", "tops", "j"] true (defScope st_law_course) m_law_course (defBody st_law_course) = true := by decide +kernel
theorem ck_law_add : ckSs { TK with fns := [80] } ["place", "vector", "share", "top", "x", "y"] true (defScope st_law_add) m_law_add (defBody st_law_add) = true := by decide +kernel
theorem ck_law_end_2 : ckSs { TK with fns := [90, 81] } ["watches", "course", "place", "k", "total", "j", "share"] true (defScope st_law_end_2) m_law_end_2 (defBody st_law_end_2) = true := by decide +kernel
theorem ck_law_free_place : ckSs { TK with fns := [80] } ["cell", "far", "wide", "x", "y"] true (defScope st_law_free_place) m_law_free_place (defBody st_law_free_place) = true := by decide +kernel
theorem ck_law_goal : ckSs { TK with fns := [92, 91, 89, 43, 90, 80] } ["watches", "cell", "far", "place", "way", "size", "step"] true (defScope st_law_goal) m_law_goal (defBody st_law_goal) = true := by decide +kernel
theorem ck_law_size : ckSs { TK with fns := [42, 43] } ["script"] true (defScope st_law_size) m_law_size (defBody st_law_size) = true := by decide +kernel
theorem ck_law_before : ckSs { TK with fns := [] } ["one", "other"] true (defScope st_law_before) m_law_before (defBody st_law_before) = true := by decide +kernel
theorem ck_law_left : ckSs { TK with fns := [48, 49, 95, 80] } ["watches", "number", "place", "bearings", "least", "most", "bearing", "lacking", "drift"] true (defScope st_law_left) m_law_left (defBody st_law_left) = true := by decide +kernel
theorem ck_law_bearings : ckSs { TK with fns := [43] } ["cell", "found", "k", "bearing"] true (defScope st_law_bearings) m_law_bearings (defBody st_law_bearings) = true := by decide +kernel
theorem ck_law_8 : ckSs { TK with fns := [47, 42, 93, 94, 97, 79, 87, 96] } ["script", "watches", "number", "cell", "place", "turn", "bearings", "found"] true (defScope st_law_8) m_law_8 (defBody st_law_8) = true := by decide +kernel
section
variable {P : Program} {w : World} {K : PySem.W.Frag} {h : Heap} {mg : Str → Option Value}
theorem wdK (X : K.In h) (G : h.Ns mainGlobals mg) (c : SaysE faK fnK tbK K) : Wd P w K mg TK where
  gl := (all_cons (gl_tup X G (is := [1, 1]) (c.d.fact 17 (f := .glo "WHOLE") rfl) (c.tb ("WHOLE", [1, 1]) (by first | decide | simp [tbK]))) (all_cons (gl_tup X G (is := [0, 1]) (c.d.fact 18 (f := .glo "NOUGHT") rfl) (c.tb ("NOUGHT", [0, 1]) (by first | decide | simp [tbK]))) all_nil))
  bi := fun b => match b with | .len => He.free_ok X G (c.d.fact 0 (f := .free "len") rfl) | .abs => He.free_ok X G (c.d.fact 1 (f := .free "abs") rfl) | .max1 => He.free_ok X G (c.d.fact 2 (f := .free "max") rfl) | .min1 => He.free_ok X G (c.d.fact 3 (f := .free "min") rfl) | .max2 => He.free_ok X G (c.d.fact 2 (f := .free "max") rfl) | .min2 => He.free_ok X G (c.d.fact 3 (f := .free "min") rfl) | .sum1 => He.free_ok X G (c.d.fact 4 (f := .free "sum") rfl) | .all1 => He.free_ok X G (c.d.fact 5 (f := .free "all") rfl) | .any1 => He.free_ok X G (c.d.fact 6 (f := .free "any") rfl) | .list1 => He.free_ok X G (c.d.fact 7 (f := .free "list") rfl) | .tuple1 => He.free_ok X G (c.d.fact 8 (f := .free "tuple") rfl) | .int1 => He.free_ok X G (c.d.fact 9 (f := .free "int") rfl) | .str1 => He.free_ok X G (c.d.fact 10 (f := .free "str") rfl)
  bo := (all_cons (He.free_ok X G (c.d.fact 11 (f := .free "isinstance") rfl)) (all_cons (He.free_ok X G (c.d.fact 12 (f := .free "range") rfl)) (all_cons (He.free_ok X G (c.d.fact 13 (f := .free "enumerate") rfl)) (all_cons (He.free_ok X G (c.d.fact 14 (f := .free "zip") rfl)) (all_cons (He.free_ok X G (c.d.fact 15 (f := .free "reversed") rfl)) (all_cons (He.free_ok X G (c.d.fact 9 (f := .free "int") rfl)) (all_cons (He.free_ok X G (c.d.fact 16 (f := .free "bool") rfl)) (all_cons (He.free_ok X G (c.d.fact 10 (f := .free "str") rfl)) (all_cons (He.free_ok X G (c.d.fact 8 (f := .free "tuple") rfl)) (all_cons (He.free_ok X G (c.d.fact 7 (f := .free "list") rfl)) all_nil))))))))))
  xa := (all_cons (He.glo_ok X G (c.d.fact 19 (f := .glo "SailError") rfl)) (all_cons (He.glo_ok X G (c.d.fact 20 (f := .glo "NoFraction") rfl)) all_nil))
  xe := (all_cons (He.exc_ok (c.d.fact 21 (f := .exc "SailError") rfl)) (all_cons (He.exc_ok (c.d.fact 22 (f := .exc "NoFraction") rfl)) all_nil))
  xm := (all_cons (all_cons (He.exm_ok (c.d.fact 23 (f := .exm "SailError" "SailError" true) rfl)) (all_cons (He.exm_ok (c.d.fact 24 (f := .exm "SailError" "NoFraction" false) rfl)) all_nil)) (all_cons (all_cons (He.exm_ok (c.d.fact 25 (f := .exm "NoFraction" "SailError" true) rfl)) (all_cons (He.exm_ok (c.d.fact 26 (f := .exm "NoFraction" "NoFraction" true) rfl)) all_nil)) all_nil))
theorem allK (X : K.In h) (G : h.Ns mainGlobals mg) (c : SaysE faK fnK tbK K) : ∃ fd : FuncData, (∀ (s : Shared) (v : Value), BindsTo s fd ⟨[v], []⟩ [("script", v)]) ∧ ∀ base : Heap, K.In base → base.Ns mainGlobals mg → FnOk P w K mg base (L2.CX P w) 7 (He.ga K "law") fd ["script"] (spLaw K) := by
  have wd : Wd P w K mg TK := wdK X G c
  obtain ⟨fd_dot_of, F_dot_of⟩ := c.d.def_ 0 (d := dd_dot_of) rfl
  obtain ⟨fd_farthest, F_farthest⟩ := c.d.def_ 1 (d := dd_farthest) rfl
  obtain ⟨fd_common_measure, F_common_measure⟩ := c.d.def_ 2 (d := dd_common_measure) rfl
  obtain ⟨fd_lowest, F_lowest⟩ := c.d.def_ 3 (d := dd_lowest) rfl
  obtain ⟨fd_taken, F_taken⟩ := c.d.def_ 4 (d := dd_taken) rfl
  obtain ⟨fd_divided, F_divided⟩ := c.d.def_ 5 (d := dd_divided) rfl
  obtain ⟨fd_is_before, F_is_before⟩ := c.d.def_ 6 (d := dd_is_before) rfl
  obtain ⟨fd_along, F_along⟩ := c.d.def_ 7 (d := dd_along) rfl
  obtain ⟨fd_farthest_by, F_farthest_by⟩ := c.d.def_ 8 (d := dd_farthest_by) rfl
  obtain ⟨fd_bounds_by, F_bounds_by⟩ := c.d.def_ 9 (d := dd_bounds_by) rfl
  obtain ⟨fd_barred_from, F_barred_from⟩ := c.d.def_ 10 (d := dd_barred_from) rfl
  obtain ⟨fd_law_cell_at, F_law_cell_at⟩ := c.d.def_ 11 (d := dd_law_cell_at) rfl
  obtain ⟨fd_law_draw, F_law_draw⟩ := c.d.def_ 12 (d := dd_law_draw) rfl
  obtain ⟨fd_law_vector_2, F_law_vector_2⟩ := c.d.def_ 13 (d := dd_law_vector_2) rfl
  obtain ⟨fd_law_free_vector, F_law_free_vector⟩ := c.d.def_ 14 (d := dd_law_free_vector) rfl
  obtain ⟨fd_law_free_watches, F_law_free_watches⟩ := c.d.def_ 15 (d := dd_law_free_watches) rfl
  obtain ⟨fd_law_watches, F_law_watches⟩ := c.d.def_ 16 (d := dd_law_watches) rfl
  obtain ⟨fd_law_lowest_2, F_law_lowest_2⟩ := c.d.def_ 17 (d := dd_law_lowest_2) rfl
  obtain ⟨fd_law_sum_2, F_law_sum_2⟩ := c.d.def_ 18 (d := dd_law_sum_2) rfl
  obtain ⟨fd_law_dot, F_law_dot⟩ := c.d.def_ 19 (d := dd_law_dot) rfl
  obtain ⟨fd_law_far, F_law_far⟩ := c.d.def_ 20 (d := dd_law_far) rfl
  obtain ⟨fd_law_same_2, F_law_same_2⟩ := c.d.def_ 21 (d := dd_law_same_2) rfl
  obtain ⟨fd_law_parts, F_law_parts⟩ := c.d.def_ 22 (d := dd_law_parts) rfl
  obtain ⟨fd_law_course, F_law_course⟩ := c.d.def_ 23 (d := dd_law_course) rfl
  obtain ⟨fd_law_add, F_law_add⟩ := c.d.def_ 24 (d := dd_law_add) rfl
  obtain ⟨fd_law_end_2, F_law_end_2⟩ := c.d.def_ 25 (d := dd_law_end_2) rfl
  obtain ⟨fd_law_free_place, F_law_free_place⟩ := c.d.def_ 26 (d := dd_law_free_place) rfl
  obtain ⟨fd_law_goal, F_law_goal⟩ := c.d.def_ 27 (d := dd_law_goal) rfl
  obtain ⟨fd_law_size, F_law_size⟩ := c.d.def_ 28 (d := dd_law_size) rfl
  obtain ⟨fd_law_before, F_law_before⟩ := c.d.def_ 29 (d := dd_law_before) rfl
  obtain ⟨fd_law_left, F_law_left⟩ := c.d.def_ 30 (d := dd_law_left) rfl
  obtain ⟨fd_law_bearings, F_law_bearings⟩ := c.d.def_ 31 (d := dd_law_bearings) rfl
  obtain ⟨fd_law_8, F_law_8⟩ := c.d.def_ 32 (d := dd_law_8) rfl
  refine ⟨fd_law_8, fun s v => FunD.bindsA (ps := ["script"]) F_law_8 (fun _ _ _ _ _ _ us hl => match us, hl with | [_], _ => rfl) s [v] rfl, fun base _ _ => ?_⟩
  have o_dot_of : FnP P w K mg base TK GK 1 33 := def_ok (ps := ["one", "other"]) wd F_dot_of (He.glo_ok X G (c.d.fact 27 (f := .glo "dot_of") rfl)) sc_dot_of (F_dot_of.bindsN fun _ _ _ _ _ _ us hl => match us, hl with | [_, _], _ => rfl) all_nil ck_dot_of (p_dot_of)
  have o_farthest : FnP P w K mg base TK GK 2 34 := def_ok (ps := ["wind", "bearing"]) wd F_farthest (He.glo_ok X G (c.d.fact 28 (f := .glo "farthest") rfl)) sc_farthest (F_farthest.bindsN fun _ _ _ _ _ _ us hl => match us, hl with | [_, _], _ => rfl) (all_cons (o_dot_of.mono (by decide)) all_nil) ck_farthest (p_farthest rfl)
  have o_common_measure : FnP P w K mg base TK GK 1 0 := def_ok (ps := ["one", "other"]) wd F_common_measure (He.glo_ok X G (c.d.fact 29 (f := .glo "common_measure") rfl)) sc_common_measure (F_common_measure.bindsN fun _ _ _ _ _ _ us hl => match us, hl with | [_, _], _ => rfl) all_nil ck_common_measure (p_common_measure)
  have o_lowest : FnP P w K mg base TK GK 2 1 := def_ok (ps := ["top", "bottom"]) wd F_lowest (He.glo_ok X G (c.d.fact 30 (f := .glo "lowest") rfl)) sc_lowest (F_lowest.bindsN fun _ _ _ _ _ _ us hl => match us, hl with | [_, _], _ => rfl) (all_cons (o_common_measure.mono (by decide)) all_nil) ck_lowest (p_lowest rfl)
  have o_taken : FnP P w K mg base TK GK 3 9 := def_ok (ps := ["one", "other"]) wd F_taken (He.glo_ok X G (c.d.fact 31 (f := .glo "taken") rfl)) sc_taken (F_taken.bindsN fun _ _ _ _ _ _ us hl => match us, hl with | [_, _], _ => rfl) (all_cons (o_lowest.mono (by decide)) all_nil) ck_taken (p_taken rfl)
  have o_divided : FnP P w K mg base TK GK 3 11 := def_ok (ps := ["one", "other"]) wd F_divided (He.glo_ok X G (c.d.fact 32 (f := .glo "divided") rfl)) sc_divided (F_divided.bindsN fun _ _ _ _ _ _ us hl => match us, hl with | [_, _], _ => rfl) (all_cons (o_lowest.mono (by decide)) all_nil) ck_divided (p_divided rfl)
  have o_is_before : FnP P w K mg base TK GK 1 15 := def_ok (ps := ["one", "other"]) wd F_is_before (He.glo_ok X G (c.d.fact 33 (f := .glo "is_before") rfl)) sc_is_before (F_is_before.bindsN fun _ _ _ _ _ _ us hl => match us, hl with | [_, _], _ => rfl) all_nil ck_is_before (p_is_before)
  have o_along : FnP P w K mg base TK GK 3 26 := def_ok (ps := ["bearing", "place"]) wd F_along (He.glo_ok X G (c.d.fact 34 (f := .glo "along") rfl)) sc_along (F_along.bindsN fun _ _ _ _ _ _ us hl => match us, hl with | [_, _], _ => rfl) (all_cons (o_lowest.mono (by decide)) all_nil) ck_along (p_along rfl)
  have o_farthest_by : FnP P w K mg base TK GK 3 41 := def_ok (ps := ["watches", "bearing"]) wd F_farthest_by (He.glo_ok X G (c.d.fact 35 (f := .glo "farthest_by") rfl)) sc_farthest_by (F_farthest_by.bindsN fun _ _ _ _ _ _ us hl => match us, hl with | [_, _], _ => rfl) (all_cons (o_farthest.mono (by decide)) (all_cons (o_dot_of.mono (by decide)) all_nil)) ck_farthest_by (p_farthest_by rfl rfl)
  have o_bounds_by : FnP P w K mg base TK GK 4 78 := def_ok (ps := ["watches", "number", "place", "bearing"]) wd F_bounds_by (He.glo_ok X G (c.d.fact 36 (f := .glo "bounds_by") rfl)) sc_bounds_by (F_bounds_by.bindsN fun _ _ _ _ _ _ us hl => match us, hl with | [_, _, _, _], _ => rfl) (all_cons (o_taken.mono (by decide)) (all_cons (o_along.mono (by decide)) (all_cons (o_farthest_by.mono (by decide)) (all_cons (o_farthest.mono (by decide)) (all_cons (o_dot_of.mono (by decide)) (all_cons (o_is_before.mono (by decide)) (all_cons (o_divided.mono (by decide)) all_nil))))))) ck_bounds_by (p_bounds_by rfl rfl rfl rfl rfl rfl rfl)
  have o_barred_from : FnP P w K mg base TK GK 5 79 := def_ok (ps := ["watches", "number", "place", "bearings"]) wd F_barred_from (He.glo_ok X G (c.d.fact 37 (f := .glo "barred_from") rfl)) sc_barred_from (F_barred_from.bindsN fun _ _ _ _ _ _ us hl => match us, hl with | [_, _, _, _], _ => rfl) (all_cons (o_bounds_by.mono (by decide)) (all_cons (o_is_before.mono (by decide)) all_nil)) ck_barred_from (p_barred_from rfl rfl)
  have o_law_cell_at : FnP P w K mg base TK GK 1 42 := def_ok (ps := ["script", "k"]) wd F_law_cell_at (He.glo_ok X G (c.d.fact 38 (f := .glo "_law_cell_at") rfl)) sc_law_cell_at (F_law_cell_at.bindsN fun _ _ _ _ _ _ us hl => match us, hl with | [_, _], _ => rfl) all_nil ck_law_cell_at (p_law_cell_at)
  have o_law_draw : FnP P w K mg base TK GK 1 43 := def_ok (ps := ["cell", "k", "many"]) wd F_law_draw (He.glo_ok X G (c.d.fact 39 (f := .glo "_law_draw") rfl)) sc_law_draw (F_law_draw.bindsN fun _ _ _ _ _ _ us hl => match us, hl with | [_, _, _], _ => rfl) all_nil ck_law_draw (p_law_draw)
  have o_law_vector_2 : FnP P w K mg base TK GK 2 44 := def_ok (ps := ["cell", "far", "line"]) wd F_law_vector_2 (He.glo_ok X G (c.d.fact 40 (f := .glo "_law_vector") rfl)) sc_law_vector_2 (F_law_vector_2.bindsN fun _ _ _ _ _ _ us hl => match us, hl with | [_, _, _], _ => rfl) (all_cons (o_law_draw.mono (by decide)) all_nil) ck_law_vector_2 (p_law_vector_2 rfl)
  have o_law_free_vector : FnP P w K mg base TK GK 1 45 := def_ok (ps := ["cell", "far"]) wd F_law_free_vector (He.glo_ok X G (c.d.fact 41 (f := .glo "_law_free_vector") rfl)) sc_law_free_vector (F_law_free_vector.bindsN fun _ _ _ _ _ _ us hl => match us, hl with | [_, _], _ => rfl) all_nil ck_law_free_vector (p_law_free_vector)
  have o_law_free_watches : FnP P w K mg base TK GK 2 46 := def_ok (ps := ["script"]) wd F_law_free_watches (He.glo_ok X G (c.d.fact 42 (f := .glo "_law_free_watches") rfl)) sc_law_free_watches (F_law_free_watches.bindsN fun _ _ _ _ _ _ us hl => match us, hl with | [_], _ => rfl) (all_cons (o_law_free_vector.mono (by decide)) all_nil) ck_law_free_watches (p_law_free_watches rfl)
  have o_law_watches : FnP P w K mg base TK GK 3 47 := def_ok (ps := ["script"]) wd F_law_watches (He.glo_ok X G (c.d.fact 43 (f := .glo "_law_watches") rfl)) sc_law_watches (F_law_watches.bindsN fun _ _ _ _ _ _ us hl => match us, hl with | [_], _ => rfl) (all_cons (o_law_cell_at.mono (by decide)) (all_cons (o_law_free_watches.mono (by decide)) (all_cons (o_law_draw.mono (by decide)) (all_cons (o_law_vector_2.mono (by decide)) all_nil)))) ck_law_watches (p_law_watches rfl rfl rfl rfl)
  have o_law_lowest_2 : FnP P w K mg base TK GK 1 80 := def_ok (ps := ["row"]) wd F_law_lowest_2 (He.glo_ok X G (c.d.fact 44 (f := .glo "_law_lowest") rfl)) sc_law_lowest_2 (F_law_lowest_2.bindsN fun _ _ _ _ _ _ us hl => match us, hl with | [_], _ => rfl) all_nil ck_law_lowest_2 (p_law_lowest_2)
  have o_law_sum_2 : FnP P w K mg base TK GK 2 81 := def_ok (ps := ["one", "other"]) wd F_law_sum_2 (He.glo_ok X G (c.d.fact 45 (f := .glo "_law_sum") rfl)) sc_law_sum_2 (F_law_sum_2.bindsN fun _ _ _ _ _ _ us hl => match us, hl with | [_, _], _ => rfl) (all_cons (o_law_lowest_2.mono (by decide)) all_nil) ck_law_sum_2 (p_law_sum_2 rfl)
  have o_law_dot : FnP P w K mg base TK GK 1 48 := def_ok (ps := ["one", "other"]) wd F_law_dot (He.glo_ok X G (c.d.fact 46 (f := .glo "_law_dot") rfl)) sc_law_dot (F_law_dot.bindsN fun _ _ _ _ _ _ us hl => match us, hl with | [_, _], _ => rfl) all_nil ck_law_dot (p_law_dot)
  have o_law_far : FnP P w K mg base TK GK 2 49 := def_ok (ps := ["watches", "bearing"]) wd F_law_far (He.glo_ok X G (c.d.fact 47 (f := .glo "_law_far") rfl)) sc_law_far (F_law_far.bindsN fun _ _ _ _ _ _ us hl => match us, hl with | [_, _], _ => rfl) (all_cons (o_law_dot.mono (by decide)) all_nil) ck_law_far (p_law_far rfl)
  have o_law_same_2_0 : FnP P w K mg base TK GK 1 82 := def_no (ps := ["found", "due"]) F_law_same_2 (He.glo_ok X G (c.d.fact 48 (f := .glo "_law_same") rfl)) sc_law_same_2 (F_law_same_2.bindsN fun _ _ _ _ _ _ us hl => match us, hl with | [_, _], _ => rfl) no_law_same_2
  have o_law_same_2_1 : FnP P w K mg base TK GK 2 83 := def_ok (ps := ["found", "due"]) wd F_law_same_2 (He.glo_ok X G (c.d.fact 48 (f := .glo "_law_same") rfl)) sc_law_same_2 (F_law_same_2.bindsN fun _ _ _ _ _ _ us hl => match us, hl with | [_, _], _ => rfl) (all_cons (o_law_same_2_0.mono (by decide)) all_nil) ck_law_same_2_1 (p_law_same_2 rfl)
  have o_law_same_2_2 : FnP P w K mg base TK GK 3 84 := def_ok (ps := ["found", "due"]) wd F_law_same_2 (He.glo_ok X G (c.d.fact 48 (f := .glo "_law_same") rfl)) sc_law_same_2 (F_law_same_2.bindsN fun _ _ _ _ _ _ us hl => match us, hl with | [_, _], _ => rfl) (all_cons (o_law_same_2_1.mono (by decide)) all_nil) ck_law_same_2_2 (p_law_same_2 rfl)
  have o_law_same_2_3 : FnP P w K mg base TK GK 4 85 := def_ok (ps := ["found", "due"]) wd F_law_same_2 (He.glo_ok X G (c.d.fact 48 (f := .glo "_law_same") rfl)) sc_law_same_2 (F_law_same_2.bindsN fun _ _ _ _ _ _ us hl => match us, hl with | [_, _], _ => rfl) (all_cons (o_law_same_2_2.mono (by decide)) all_nil) ck_law_same_2_3 (p_law_same_2 rfl)
  have o_law_same_2_4 : FnP P w K mg base TK GK 5 86 := def_ok (ps := ["found", "due"]) wd F_law_same_2 (He.glo_ok X G (c.d.fact 48 (f := .glo "_law_same") rfl)) sc_law_same_2 (F_law_same_2.bindsN fun _ _ _ _ _ _ us hl => match us, hl with | [_, _], _ => rfl) (all_cons (o_law_same_2_3.mono (by decide)) all_nil) ck_law_same_2_4 (p_law_same_2 rfl)
  have o_law_same_2_5 : FnP P w K mg base TK GK 6 87 := def_ok (ps := ["found", "due"]) wd F_law_same_2 (He.glo_ok X G (c.d.fact 48 (f := .glo "_law_same") rfl)) sc_law_same_2 (F_law_same_2.bindsN fun _ _ _ _ _ _ us hl => match us, hl with | [_, _], _ => rfl) (all_cons (o_law_same_2_4.mono (by decide)) all_nil) ck_law_same_2_5 (p_law_same_2 rfl)
  have o_law_same_2 := o_law_same_2_5
  have o_law_parts : FnP P w K mg base TK GK 2 88 := def_ok (ps := ["cell", "many", "bottom"]) wd F_law_parts (He.glo_ok X G (c.d.fact 49 (f := .glo "_law_parts") rfl)) sc_law_parts (F_law_parts.bindsN fun _ _ _ _ _ _ us hl => match us, hl with | [_, _, _], _ => rfl) (all_cons (o_law_draw.mono (by decide)) all_nil) ck_law_parts (p_law_parts rfl)
  have o_law_course : FnP P w K mg base TK GK 3 89 := def_ok (ps := ["watches", "cell"]) wd F_law_course (He.glo_ok X G (c.d.fact 50 (f := .glo "_law_course") rfl)) sc_law_course (F_law_course.bindsN fun _ _ _ _ _ _ us hl => match us, hl with | [_, _], _ => rfl) (all_cons (o_law_draw.mono (by decide)) (all_cons (o_law_parts.mono (by decide)) (all_cons (o_law_lowest_2.mono (by decide)) all_nil))) ck_law_course (p_law_course rfl rfl rfl)
  have o_law_add : FnP P w K mg base TK GK 2 90 := def_ok (ps := ["place", "vector", "share"]) wd F_law_add (He.glo_ok X G (c.d.fact 51 (f := .glo "_law_add") rfl)) sc_law_add (F_law_add.bindsN fun _ _ _ _ _ _ us hl => match us, hl with | [_, _, _], _ => rfl) (all_cons (o_law_lowest_2.mono (by decide)) all_nil) ck_law_add (p_law_add rfl)
  have o_law_end_2 : FnP P w K mg base TK GK 3 91 := def_ok (ps := ["watches", "course"]) wd F_law_end_2 (He.glo_ok X G (c.d.fact 52 (f := .glo "_law_end") rfl)) sc_law_end_2 (F_law_end_2.bindsN fun _ _ _ _ _ _ us hl => match us, hl with | [_, _], _ => rfl) (all_cons (o_law_add.mono (by decide)) (all_cons (o_law_sum_2.mono (by decide)) all_nil)) ck_law_end_2 (p_law_end_2 rfl rfl)
  have o_law_free_place : FnP P w K mg base TK GK 2 92 := def_ok (ps := ["cell", "far"]) wd F_law_free_place (He.glo_ok X G (c.d.fact 53 (f := .glo "_law_free_place") rfl)) sc_law_free_place (F_law_free_place.bindsN fun _ _ _ _ _ _ us hl => match us, hl with | [_, _], _ => rfl) (all_cons (o_law_lowest_2.mono (by decide)) all_nil) ck_law_free_place (p_law_free_place rfl)
  have o_law_goal : FnP P w K mg base TK GK 4 93 := def_ok (ps := ["watches", "cell", "far"]) wd F_law_goal (He.glo_ok X G (c.d.fact 54 (f := .glo "_law_goal") rfl)) sc_law_goal (F_law_goal.bindsN fun _ _ _ _ _ _ us hl => match us, hl with | [_, _, _], _ => rfl) (all_cons (o_law_free_place.mono (by decide)) (all_cons (o_law_end_2.mono (by decide)) (all_cons (o_law_course.mono (by decide)) (all_cons (o_law_draw.mono (by decide)) (all_cons (o_law_add.mono (by decide)) (all_cons (o_law_lowest_2.mono (by decide)) all_nil)))))) ck_law_goal (p_law_goal rfl rfl rfl rfl rfl rfl)
  have o_law_size : FnP P w K mg base TK GK 2 94 := def_ok (ps := ["script"]) wd F_law_size (He.glo_ok X G (c.d.fact 55 (f := .glo "_law_size") rfl)) sc_law_size (F_law_size.bindsN fun _ _ _ _ _ _ us hl => match us, hl with | [_], _ => rfl) (all_cons (o_law_cell_at.mono (by decide)) (all_cons (o_law_draw.mono (by decide)) all_nil)) ck_law_size (p_law_size rfl rfl)
  have o_law_before : FnP P w K mg base TK GK 1 95 := def_ok (ps := ["one", "other"]) wd F_law_before (He.glo_ok X G (c.d.fact 56 (f := .glo "_law_before") rfl)) sc_law_before (F_law_before.bindsN fun _ _ _ _ _ _ us hl => match us, hl with | [_, _], _ => rfl) all_nil ck_law_before (p_law_before)
  have o_law_left : FnP P w K mg base TK GK 3 96 := def_ok (ps := ["watches", "number", "place", "bearings"]) wd F_law_left (He.glo_ok X G (c.d.fact 57 (f := .glo "_law_left") rfl)) sc_law_left (F_law_left.bindsN fun _ _ _ _ _ _ us hl => match us, hl with | [_, _, _, _], _ => rfl) (all_cons (o_law_dot.mono (by decide)) (all_cons (o_law_far.mono (by decide)) (all_cons (o_law_before.mono (by decide)) (all_cons (o_law_lowest_2.mono (by decide)) all_nil)))) ck_law_left (p_law_left rfl rfl rfl rfl)
  have o_law_bearings : FnP P w K mg base TK GK 2 97 := def_ok (ps := ["cell"]) wd F_law_bearings (He.glo_ok X G (c.d.fact 58 (f := .glo "_law_bearings") rfl)) sc_law_bearings (F_law_bearings.bindsN fun _ _ _ _ _ _ us hl => match us, hl with | [_], _ => rfl) (all_cons (o_law_draw.mono (by decide)) all_nil) ck_law_bearings (p_law_bearings rfl)
  have ol := def_okF (f := 98) (G := GK) (base := base) (P := P) (w := w) (ps := ["script"]) (k := 6) wd F_law_8 sc_law_8 (all_cons (o_law_watches.mono (by decide)) (all_cons (o_law_cell_at.mono (by decide)) (all_cons (o_law_goal.mono (by decide)) (all_cons (o_law_size.mono (by decide)) (all_cons (o_law_bearings.mono (by decide)) (all_cons (o_barred_from.mono (by decide)) (all_cons (o_law_same_2.mono (by decide)) (all_cons (o_law_left.mono (by decide)) all_nil)))))))) ck_law_8 (p_law_8 rfl rfl rfl rfl rfl rfl rfl rfl)
  exact law_end (f := 98) (G := GK) c.nl (fun ns hn Q X q => ⟨ns, rfl, hn, q⟩) ol
end
theorem law_fact {K : PySem.W.Frag} (c : SaysE faK fnK tbK K) : (He.Fa.glo "law").ok K = true := c.d.fact 59 (f := .glo "law") rfl
abbrev RK : PySem.W.OpenRow := PySem.W.OpenLaw.row PySem.Challenge.rw_closehaul_k29_what_bearings_leave
def nm0 : List Str := ["SailError", "NoFraction", "NOUGHT", "WHOLE", "dot_of", "farthest", "common_measure", "lowest", "taken", "divided", "is_before", "along", "farthest_by", "bounds_by", "barred_from", "_law_cell_at", "_law_draw", "_law_vector", "_law_free_vector", "_law_free_watches", "_law_watches", "_law_lowest", "_law_sum", "_law_dot", "_law_far", "_law_same", "_law_parts", "_law_course", "_law_add", "_law_end"]
def nm1 : List Str := ["_law_free_place", "_law_goal", "_law_size", "_law_before", "_law_left", "_law_bearings"]
def nmK : List Str := nm0 ++ nm1
abbrev hkK : PySem.W.Hook := hookE 4 faK fnK tbK
def obK (s : PySem.W.SharedT) : He.AlD × Bool := obsEG 4 faK fnK tbK (HandSHeadRun.getT s)
theorem obK_eq (s : PySem.W.SharedT) : obK s = hkK.obs s.abs := obsEG_eq (HandSHeadRun.getT_eq s)
theorem runK (w : World) : HandSHeadRun.RunEq RK (PySem.W.view RK.prog [43]) hkK obK 6000 nmK w := by
  intro os
  kernel_rfl
end DL
end
open PySem PySem.W PySem.Calls PyProof.Rows
set_option maxRecDepth 100000 in
set_option maxHeartbeats 0 in
theorem PySem.Challenge.cw_closehaul_k29_what_bearings_leave_holds : PySem.Challenge.rw_closehaul_k29_what_bearings_leave.Holds := by
  w_on; o_law
  refine HandSHeadRun.head_any (r := OpenLaw.row PySem.Challenge.rw_closehaul_k29_what_bearings_leave) (q := view (OpenLaw.row PySem.Challenge.rw_closehaul_k29_what_bearings_leave).prog [43]) (H := DL.hkK) (ob := DL.obK) (M := 6000) (loose := DL.nmK) (d := HandSHeadRun.topDef (OpenLaw.row PySem.Challenge.rw_closehaul_k29_what_bearings_leave).prog 43) (kwd := []) DL.obK_eq
    (by kernel_rfl) (fun s => by kernel_rfl) DL.runK (by kernel_rfl) (by kernel_rfl) (by kernel_rfl) (by rfl) (by first | assumption | decide +kernel) (by decide +kernel) ⟨rfl, rfl, rfl, rfl, rfl, by decide +kernel⟩ ?hw ?hc
  case hw => w_witness2
  case hc =>
    refine DL.walk_w (l := PySem.Challenge.rw_closehaul_k29_what_bearings_leave) (k := 7) (x := "script") rfl (by kernel_rfl) ⟨rfl, by decide, by decide⟩ ?F
    case F =>
      intro w mg fa h Y G em
      obtain ⟨K, KX, c⟩ := Y
      have e : (HandSHeadRun.topDef (OpenLaw.row PySem.Challenge.rw_closehaul_k29_what_bearings_leave).prog 43).name = ("law" : PySem.Str) := by kernel_rfl
      rw [e] at em
      cases em.symm.trans (He.glo_ok KX G (DL.law_fact c))
      obtain ⟨fd, hb, hF⟩ := DL.allK (P := (PySem.Challenge.rw_closehaul_k29_what_bearings_leave).prog) (w := w) KX G c
      exact ⟨K, fd, KX, hb, hF⟩
