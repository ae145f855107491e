import PyProof.Rows.All
import Wide.All
import OpenK.AllK
import Wide.FinOn
import KE.DataEq
import HandS.ForMost
import HandS.ForExc
import HandS.Wide
import HandS.TupAny
import HandS.Deep
import HandS.IsInst
import HandS.Zip
import HandS.Rev
import HandS.HeadHook2
import KE.GoesZip
import KE.GoesMore
import HandS.ListItems
import KE.KDictZip
import KE.DataCmp
import HandS.TupSets
import HandS.SortOrd
import HandS.SortRule
import HandS.Set
import KE.DataMinMax
import KE.SortData
import KE.DatumIndex
import KE.DataAny
import HandS.Style
import KE.GoesEnum
import HandS.Conv
import HandS.ExcIs
import HandS.More
import HandS.Head0
import HandS.Head1
import HandS.Head2
import HandS.HeadEnd
import HandS.HeadHook1
import KE.KStateDown
import PySem.Challenge.RW_closehaul_k37_the_farthest_of_an_area
set_option Elab.async false
set_option linter.all false
section
set_option maxRecDepth 100000
set_option maxHeartbeats 4000000
namespace DL
open PySem PySem.Spec PyProof.Rows L2
abbrev D := PyData
inductive R where
  | d (x : D)
  | l (ds : List D) (fr : Bool)
abbrev En := List (Option R)
structure Step (F H F' H' : Hp) : Prop where
  f : Same F F'
  h : Same H H'
  s : ∀ a, H a ≠ none → F a = none → F' a = none
section
variable {K : PySem.W.Frag} {F H F' H' F1 H1 F2 H2 B B' : Hp} {a p : Addr} {xs ys : List V} {ds es : List D}
theorem Step.refl : Step F H F H := ⟨Same.refl _, Same.refl _, fun _ _ h => h⟩
theorem ne_none_of {o : HO} (h : H a = some o) : H a ≠ none := fun z => by rw [z] at h; cases h
theorem some_of_ne (h : H a ≠ none) : ∃ o, H a = some o := by
  cases q : H a with
  | none => exact absurd q h
  | some o => exact ⟨o, rfl⟩
theorem Same.nn (e : Same H H') (h : H a ≠ none) : H' a ≠ none := by
  obtain ⟨o, q⟩ := some_of_ne h
  exact ne_none_of (e a o q)
theorem Step.trans (x : Step F H F1 H1) (y : Step F1 H1 F2 H2) : Step F H F2 H2 :=
  ⟨x.f.trans y.f, x.h.trans y.h, fun a h1 h2 => y.s a (Same.nn x.h h1) (x.s a h1 h2)⟩
theorem SqL.mono (e : Same H H') (h : SqL K H a xs) : SqL K H' a xs := Same.seq e h
theorem SqT.mono (e : Same H H') (h : SqT K H a xs) : SqT K H' a xs := by
  rcases h with (h | ⟨o, h⟩) | h
  · exact .inl (.inl (e _ _ h))
  · exact .inl (.inr ⟨o, e _ _ h⟩)
  · exact .inr h
def Nd (K : PySem.W.Frag) (H : Hp) (a : Addr) : Prop := ∃ o : Obj, ((∃ u, H a = some (.frz o u)) ∨ K.lookup a = some o) ∧ o.dict = none
theorem Nd.mono (e : Same H H') (h : Nd K H a) : Nd K H' a := let ⟨o, q, d⟩ := h; ⟨o, q.imp (fun ⟨u, x⟩ => ⟨u, e _ _ x⟩) id, d⟩
theorem Nd.new {o : Obj} {u : HO} (d : o.dict = none) : Nd K (upd H p (.frz o u)) p := ⟨o, .inl ⟨u, upd_same⟩, d⟩
def isTp : PyData → Bool
  | .tuple _ => true
  | _ => false
def hd1 : List PyData → Bool
  | d :: _ => isTp d
  | [] => false
mutual
inductive Dq (K : PySem.W.Frag) (H : Hp) : V → PyData → Prop
  | non : Dq K H .non .none
  | bl (b : Bool) : Dq K H (.bl b) (.bool b)
  | int (i : Int) : Dq K H (.int i) (.int i)
  | str (x : Str) : Dq K H (.str x) (.str x)
  | lst {a : Addr} {xs : List V} {ds : List PyData} : Rd H a (.lst xs) → DqAll K H xs ds → Dq K H (.ref a) (.list ds)
  | tup {a : Addr} {xs : List V} {ds : List PyData} : SqT K H a xs → (hd1 ds = true → Nd K H a) → DqAll K H xs ds → Dq K H (.ref a) (.tuple ds)
inductive DqAll (K : PySem.W.Frag) (H : Hp) : List V → List PyData → Prop
  | nil : DqAll K H [] []
  | cons {v : V} {vs : List V} {d : PyData} {ds : List PyData} : Dq K H v d → DqAll K H vs ds → DqAll K H (v :: vs) (d :: ds)
end
theorem Rd.mono {o : HO} (e : Same H H') (h : Rd H a o) : Rd H' a o := by
  rcases h with h | ⟨u, h⟩
  · exact .inl (e _ _ h)
  · exact .inr ⟨u, e _ _ h⟩
mutual
theorem Dq.mono (e : Same H H') : ∀ (d : D) (v : V), Dq K H v d → Dq K H' v d
  | .none, _, h => by cases h; exact .non
  | .bool b, _, h => by cases h; exact .bl b
  | .int i, _, h => by cases h; exact .int i
  | .str x, _, h => by cases h; exact .str x
  | .list ds, _, h => by
    cases h with
    | lst h1 h2 => exact .lst (Rd.mono e h1) (DqAll.mono e ds _ h2)
  | .tuple ds, _, h => by
    cases h with
    | tup h1 hn h2 => exact .tup (SqT.mono e h1) (fun z => (hn z).mono e) (DqAll.mono e ds _ h2)
  | .dict _, _, h => by cases h
theorem DqAll.mono (e : Same H H') : ∀ (ds : List D) (vs : List V), DqAll K H vs ds → DqAll K H' vs ds
  | [], _, h => by cases h; exact .nil
  | d :: ds, _, h => by
    cases h with
    | cons h1 h2 => exact .cons (Dq.mono e d _ h1) (DqAll.mono e ds _ h2)
end
mutual
theorem Dq.dp : ∀ (d : D) (v : V), Dq K H v d → Dp K H v d ∧ d.plain = true
  | .none, _, h => by cases h; exact ⟨.non, by simp [PyData.plain]⟩
  | .bool b, _, h => by cases h; exact ⟨.bl b, by simp [PyData.plain]⟩
  | .int i, _, h => by cases h; exact ⟨.int i, by simp [PyData.plain]⟩
  | .str x, _, h => by cases h; exact ⟨.str x, by simp [PyData.plain]⟩
  | .list ds, _, h => by
    cases h with
    | lst h1 h2 => exact ⟨.lst (.inl h1) (DqAll.dp ds _ h2).1, by simpa [PyData.plain] using (DqAll.dp ds _ h2).2⟩
  | .tuple ds, _, h => by
    cases h with
    | tup h1 hn h2 => exact ⟨.tup h1 (DqAll.dp ds _ h2).1, by simpa [PyData.plain] using (DqAll.dp ds _ h2).2⟩
  | .dict _, _, h => by cases h
theorem DqAll.dp : ∀ (ds : List D) (vs : List V), DqAll K H vs ds → DpAll K H vs ds ∧ PyData.plainAll ds = true
  | [], _, h => by cases h; exact ⟨.nil, by simp [PyData.plainAll]⟩
  | d :: ds, _, h => by
    cases h with
    | cons h1 h2 => exact ⟨.cons (Dq.dp d _ h1).1 (DqAll.dp ds _ h2).1, by simp [PyData.plainAll, (Dq.dp d _ h1).2, (DqAll.dp ds _ h2).2]⟩
end
theorem dp_mono {v : V} {d : D} (e : Same H H') (h : Dq K H v d) : Dq K H' v d := Dq.mono e d v h
theorem dpa_mono {vs : List V} {ds : List D} (e : Same H H') (h : DqAll K H vs ds) : DqAll K H' vs ds := DqAll.mono e ds vs h
theorem dpa_len : ∀ {ds : List D} {vs : List V}, DqAll K H vs ds → vs.length = ds.length
  | [], _, h => by cases h; rfl
  | d :: ds, _, h => by
    cases h with
    | cons h1 h2 => rw [List.length_cons, List.length_cons, dpa_len h2]
theorem dpa_get : ∀ {ds : List D} {vs : List V} {i : Nat} {d : D}, DqAll K H vs ds → ds[i]? = some d → ∃ v, vs[i]? = some v ∧ Dq K H v d
  | [], _, _, _, _, e => by simp at e
  | d :: ds, _, 0, _, h, e => by
    cases h with
    | cons h1 h2 => simp at e; subst e; exact ⟨_, rfl, h1⟩
  | d :: ds, _, i + 1, _, h, e => by
    cases h with
    | cons h1 h2 =>
      obtain ⟨v, q1, q2⟩ := dpa_get (i := i) h2 (by simpa using e)
      exact ⟨v, by simpa using q1, q2⟩
theorem dpa_get' : ∀ {ds : List D} {vs : List V} {i : Nat} {v : V}, DqAll K H vs ds → vs[i]? = some v → ∃ d, ds[i]? = some d ∧ Dq K H v d
  | [], _, _, _, h, e => by cases h; simp at e
  | d :: ds, _, 0, _, h, e => by
    cases h with
    | cons h1 h2 => simp at e; subst e; exact ⟨_, rfl, h1⟩
  | d :: ds, _, i + 1, _, h, e => by
    cases h with
    | cons h1 h2 =>
      obtain ⟨v, q1, q2⟩ := dpa_get' (i := i) h2 (by simpa using e)
      exact ⟨v, by simpa using q1, q2⟩
theorem dpa_app : ∀ {ds es : List D} {vs us : List V}, DqAll K H vs ds → DqAll K H us es → DqAll K H (vs ++ us) (ds ++ es)
  | [], _, _, _, h, g => by cases h; exact g
  | d :: ds, _, _, _, h, g => by
    cases h with
    | cons h1 h2 => exact .cons h1 (dpa_app h2 g)
theorem dpa_take : ∀ {ds : List D} {vs : List V} (n : Nat), DqAll K H vs ds → DqAll K H (vs.take n) (ds.take n)
  | _, _, 0, _ => by rw [List.take_zero, List.take_zero]; exact .nil
  | [], _, n + 1, h => by cases h; rw [List.take_nil, List.take_nil]; exact .nil
  | d :: ds, _, n + 1, h => by
    cases h with
    | cons h1 h2 => rw [List.take_succ_cons, List.take_succ_cons]; exact .cons h1 (dpa_take n h2)
theorem dpa_drop : ∀ {ds : List D} {vs : List V} (n : Nat), DqAll K H vs ds → DqAll K H (vs.drop n) (ds.drop n)
  | _, _, 0, h => h
  | [], _, n + 1, h => by cases h; rw [List.drop_nil, List.drop_nil]; exact .nil
  | d :: ds, _, n + 1, h => by
    cases h with
    | cons h1 h2 => exact dpa_drop n h2
theorem dpa_set : ∀ {ds : List D} {vs : List V} {d : D} {v : V} (n : Nat), Dq K H v d → DqAll K H vs ds → DqAll K H (vs.set n v) (ds.set n d)
  | [], _, _, _, n, _, h => by cases h; rw [List.set_nil, List.set_nil]; exact .nil
  | _ :: ds, _, _, _, 0, g, h => by
    cases h with
    | cons h1 h2 => exact .cons g h2
  | _ :: ds, _, _, _, n + 1, g, h => by
    cases h with
    | cons h1 h2 => exact .cons h1 (dpa_set n g h2)
theorem dpa_rev {ds : List D} {vs : List V} (h : DqAll K H vs ds) : DqAll K H vs.reverse ds.reverse := by
  induction ds generalizing vs with
  | nil => cases h; exact .nil
  | cons d ds ih =>
    cases h with
    | cons h1 h2 =>
      rw [List.reverse_cons, List.reverse_cons]
      exact dpa_app (ih h2) (.cons h1 .nil)
theorem dpa_dropLast {ds : List D} {vs : List V} (h : DqAll K H vs ds) : DqAll K H vs.dropLast ds.dropLast := by
  rw [List.dropLast_eq_take, List.dropLast_eq_take, dpa_len h]
  exact dpa_take _ h
theorem dpa_ints : ∀ {ns : List Int} {xs : List V}, DqAll K H xs (ns.map PyData.int) → xs = ns.map V.int
  | [], xs, h => by cases h; rfl
  | n :: ns, xs, h => by
    cases h with
    | cons h1 h2 => cases h1; rw [dpa_ints h2]; rfl
theorem dpa_of_ints : ∀ (ns : List Int), DqAll K H (ns.map V.int) (ns.map PyData.int)
  | [] => .nil
  | n :: ns => .cons (.int n) (dpa_of_ints ns)
theorem dpa_bls : ∀ {ns : List Bool} {xs : List V}, DqAll K H xs (ns.map PyData.bool) → xs = ns.map V.bl
  | [], xs, h => by cases h; rfl
  | n :: ns, xs, h => by
    cases h with
    | cons h1 h2 => cases h1; rw [dpa_bls h2]; rfl
def RV (K : PySem.W.Frag) (B F H : Hp) : R → V → Prop
  | .d x, v => Dq K F v x
  | .l ds fr, v => ∃ a xs, v = .ref a ∧ H a = some (.lst xs) ∧ DqAll K F xs ds ∧ F a = none ∧ (fr = true → B a = none)
theorem RV.step {r : R} {v : V} (h : RV K B F H r v) (s : Step F H F' H') : RV K B F' H' r v := by
  cases r with
  | d x => exact dp_mono s.f h
  | l ds fr =>
    obtain ⟨a, xs, h1, h2, h3, h4, h5⟩ := h
    exact ⟨a, xs, h1, s.h _ _ h2, dpa_mono s.f h3, s.s a (ne_none_of h2) h4, h5⟩
theorem RV.base {r : R} {v : V} (h : RV K B F H r v) (s : Same B' B) : RV K B' F H r v := by
  cases r with
  | d x => exact h
  | l ds fr =>
    obtain ⟨a, xs, h1, h2, h3, h4, h5⟩ := h
    exact ⟨a, xs, h1, h2, h3, h4, fun z => Same.free s (h5 z)⟩
def look : R → D
  | .d x => x
  | .l ds _ => .list ds
theorem RV.look {r : R} {v : V} (h : RV K B F H r v) (fh : Same F H) : Dq K H v (DL.look r) := by
  cases r with
  | d x => exact dp_mono fh h
  | l ds fr =>
    obtain ⟨a, xs, h1, h2, h3, h4, h5⟩ := h
    subst h1
    exact .lst (.inl h2) (dpa_mono fh h3)
theorem same_upd {o : HO} (h : F a = none) : Same F (upd F a o) := fun b u e => by rw [upd_ne (ne_of_none e h)]; exact e
theorem upd_le {o : HO} (fh : Same F H) (h : H a = some o) : Same (upd F a o) H := fun b u e => by
  by_cases hb : b = a
  · subst hb; rw [upd_same] at e; cases e; exact h
  · rw [upd_ne hb] at e; exact fh b u e
theorem Step.new {o : HO} (fh : Same F H) (h : H p = none) : Step F H (upd F p o) (upd H p o) :=
  ⟨same_upd (Same.free fh h), same_upd h, fun a h1 h2 => by rw [upd_ne (fun z => by subst z; exact h1 h)]; exact h2⟩
theorem same_new {o : HO} (fh : Same F H) : Same (upd F p o) (upd H p o) := fun b u e => by
  by_cases hb : b = p
  · subst hb; rw [upd_same] at e ⊢; exact e
  · rw [upd_ne hb] at e ⊢; exact fh b u e
theorem Step.own {o : HO} (fh : Same F H) (h : H p = none) : Step F H F (upd H p o) :=
  ⟨Same.refl _, same_upd h, fun a h1 h2 => h2⟩
theorem same_own {o : HO} (fh : Same F H) (h : H p = none) : Same F (upd H p o) := fun b u e => by
  rw [upd_ne (ne_of_none (fh b u e) h)]; exact fh b u e
def frz : R → Option D
  | .d x => some x
  | .l ds true => some (.list ds)
  | .l _ false => none
theorem RV.frz {r : R} {v : V} {x : D} (h : RV K B F H r v) (fh : Same F H) (e : DL.frz r = some x) : ∃ F', Same F F' ∧ Same F' H ∧ Dq K F' v x ∧ ∀ a, B a ≠ none → F a = none → F' a = none := by
  cases r with
  | d y => cases e; exact ⟨F, Same.refl _, fh, h, fun _ _ z => z⟩
  | l ds fr =>
    cases fr with
    | false => cases e
    | true =>
      cases e
      obtain ⟨a, xs, h1, h2, h3, h4, h5⟩ := h
      subst h1
      refine ⟨upd F a (.lst xs), same_upd h4, upd_le fh h2, .lst (.inl upd_same) (dpa_mono (same_upd h4) h3), fun b hb hf => ?_⟩
      have ne : b ≠ a := fun z => by subst z; exact hb (h5 rfl)
      rw [upd_ne ne]; exact hf
end
section
variable {K : PySem.W.Frag} {F H : Hp} {p : Addr} {xs : List V} {ds : List D}
theorem dq_new {o : Obj} (fh : Same F H) (hp : H p = none) (ho : o.dict = none) (h : DqAll K F xs ds) : Dq K (upd F p (.frz o (.tup xs))) (.ref p) (.tuple ds) :=
  .tup (.inl (.inr ⟨o, upd_same⟩)) (fun _ => Nd.new ho) (dpa_mono (same_upd (Same.free fh hp)) h)
end
structure SR (K : PySem.W.Frag) (F0 H0 F : Hp) (ρ : En) (σ : L2.St) (H : Hp) : Prop where
  fh : Same F H
  ent : Step F0 H0 F H
  len : σ.length = ρ.length
  val : ∀ (i : Nat) (x : D), ρ[i]? = some (some (R.d x)) → ∃ v, σ[i]? = some (some v) ∧ Dq K F v x
  own : ∀ (i : Nat) (ds : List D) (b : Bool), ρ[i]? = some (some (R.l ds b)) → ∃ a xs, σ[i]? = some (some (.ref a)) ∧ H a = some (.lst xs) ∧ DqAll K F xs ds ∧ F a = none ∧ H0 a = none
  sep : ∀ (i j : Nat) (ds es : List D) (b c : Bool) (a : Addr), i ≠ j → ρ[i]? = some (some (R.l ds b)) → ρ[j]? = some (some (R.l es c)) → σ[i]? = some (some (.ref a)) → σ[j]? ≠ some (some (.ref a))
section
variable {K : PySem.W.Frag} {F0 H0 F H F' H' : Hp} {ρ : En} {σ : L2.St}
theorem SR.step (x : SR K F0 H0 F ρ σ H) (s : Step F H F' H') (fh : Same F' H') : SR K F0 H0 F' ρ σ H' where
  fh := fh
  ent := x.ent.trans s
  len := x.len
  val := fun i y e => let ⟨v, h1, h2⟩ := x.val i y e; ⟨v, h1, dp_mono s.f h2⟩
  own := fun i ds b e => let ⟨a, xs, h1, h2, h3, h4, h5⟩ := x.own i ds b e; ⟨a, xs, h1, s.h _ _ h2, dpa_mono s.f h3, s.s a (ne_none_of h2) h4, h5⟩
  sep := x.sep
theorem get_set_some {α : Type} {l : List (Option α)} {i j : Nat} {v w : Option α} (h : (l.set i v)[j]? = some w) : (i = j ∧ v = w) ∨ (i ≠ j ∧ l[j]? = some w) := by
  by_cases e : i = j
  · subst e
    rw [List.getElem?_set] at h
    rw [if_pos rfl] at h
    split at h
    · exact .inl ⟨rfl, Option.some.inj h⟩
    · cases h
  · rw [List.getElem?_set_ne e] at h
    exact .inr ⟨e, h⟩
theorem set_get {α : Type} {l : List (Option α)} {i : Nat} {v : Option α} (h : i < l.length) : (l.set i v)[i]? = some v := by
  rw [List.getElem?_set, if_pos rfl, if_pos h]
theorem lt_of_set {α : Type} {l : List (Option α)} {i : Nat} {v w : Option α} (h : (l.set i v)[i]? = some w) : i < l.length := by
  have := (List.getElem?_eq_some_iff.mp h).1
  simpa using this
theorem SR.setD (x : SR K F0 H0 F ρ σ H) {v : V} {d : D} (h : Dq K F v d) (i : Nat) : SR K F0 H0 F (ρ.set i (some (.d d))) (σ.set i (some v)) H where
  fh := x.fh
  ent := x.ent
  len := by rw [List.length_set, List.length_set]; exact x.len
  val := fun j y e => by
    rcases get_set_some e with ⟨q1, q2⟩ | ⟨q1, q2⟩
    · subst q1
      cases q2
      exact ⟨v, set_get (by rw [x.len]; exact lt_of_set e), h⟩
    · rw [List.getElem?_set_ne q1]
      exact x.val j y q2
  own := fun j ds b e => by
    rcases get_set_some e with ⟨q1, q2⟩ | ⟨q1, q2⟩
    · cases q2
    · rw [List.getElem?_set_ne q1]
      exact x.own j ds b q2
  sep := fun j k ds es b c a ne e1 e2 h1 => by
    rcases get_set_some e1 with ⟨q1, q2⟩ | ⟨q1, q2⟩
    · cases q2
    · rcases get_set_some e2 with ⟨q3, q4⟩ | ⟨q3, q4⟩
      · cases q4
      · rw [List.getElem?_set_ne q1] at h1
        rw [List.getElem?_set_ne q3]
        exact x.sep j k ds es b c a ne q2 q4 h1
theorem SR.setL (x : SR K F0 H0 F ρ σ H) {a : Addr} {xs : List V} {ds : List D} (h : H a = some (.lst xs)) (hd : DqAll K F xs ds) (hf : F a = none) (h0 : H0 a = none)
    (new : ∀ (j : Nat) (es : List D) (c : Bool), ρ[j]? = some (some (R.l es c)) → σ[j]? ≠ some (some (.ref a))) (i : Nat) : SR K F0 H0 F (ρ.set i (some (.l ds true))) (σ.set i (some (.ref a))) H where
  fh := x.fh
  ent := x.ent
  len := by rw [List.length_set, List.length_set]; exact x.len
  val := fun j y e => by
    rcases get_set_some e with ⟨q1, q2⟩ | ⟨q1, q2⟩
    · cases q2
    · rw [List.getElem?_set_ne q1]
      exact x.val j y q2
  own := fun j es b e => by
    rcases get_set_some e with ⟨q1, q2⟩ | ⟨q1, q2⟩
    · subst q1
      cases q2
      exact ⟨a, xs, set_get (by rw [x.len]; exact lt_of_set e), h, hd, hf, h0⟩
    · rw [List.getElem?_set_ne q1]
      exact x.own j es b q2
  sep := fun j k es fs b c a' ne e1 e2 h1 => by
    rcases get_set_some e1 with ⟨q1, q2⟩ | ⟨q1, q2⟩
    · rcases get_set_some e2 with ⟨q3, q4⟩ | ⟨q3, q4⟩
      · exact absurd (q1.symm.trans q3) ne
      · subst q1
        rw [set_get (by rw [x.len]; exact lt_of_set e1)] at h1
        cases h1
        rw [List.getElem?_set_ne q3]
        exact new k fs c q4
    · rcases get_set_some e2 with ⟨q3, q4⟩ | ⟨q3, q4⟩
      · subst q3
        rw [set_get (by rw [x.len]; exact lt_of_set e2)]
        intro z
        cases z
        rw [List.getElem?_set_ne q1] at h1
        exact new j es b q2 h1
      · rw [List.getElem?_set_ne q1] at h1
        rw [List.getElem?_set_ne q3]
        exact x.sep j k es fs b c a' ne q2 q4 h1
theorem SR.unset (x : SR K F0 H0 F ρ σ H) (i : Nat) : SR K F0 H0 F (ρ.set i none) (σ.set i none) H where
  fh := x.fh
  ent := x.ent
  len := by rw [List.length_set, List.length_set]; exact x.len
  val := fun j y e => by
    rcases get_set_some e with ⟨q1, q2⟩ | ⟨q1, q2⟩
    · cases q2
    · rw [List.getElem?_set_ne q1]
      exact x.val j y q2
  own := fun j ds b e => by
    rcases get_set_some e with ⟨q1, q2⟩ | ⟨q1, q2⟩
    · cases q2
    · rw [List.getElem?_set_ne q1]
      exact x.own j ds b q2
  sep := fun j k ds es b c a ne e1 e2 h1 => by
    rcases get_set_some e1 with ⟨q1, q2⟩ | ⟨q1, q2⟩
    · cases q2
    · rcases get_set_some e2 with ⟨q3, q4⟩ | ⟨q3, q4⟩
      · cases q4
      · rw [List.getElem?_set_ne q1] at h1
        rw [List.getElem?_set_ne q3]
        exact x.sep j k ds es b c a ne q2 q4 h1
def wip (ρ : En) : List Nat → En
  | [] => ρ
  | v :: vs => (wip ρ vs).set v none
theorem SR.wip (x : SR K F0 H0 F ρ σ H) : ∀ vs : List Nat, SR K F0 H0 F (DL.wip ρ vs) (wipe σ vs) H
  | [] => x
  | v :: vs => by
    unfold wipe DL.wip
    exact (SR.wip x vs).unset v
theorem SR.put (x : SR K F0 H0 F ρ σ H) {i : Nat} {ds es : List D} {b : Bool} {a : Addr} {ys : List V} (e : ρ[i]? = some (some (R.l ds b))) (h : σ[i]? = some (some (.ref a))) (hd : DqAll K F ys es) :
    SR K F0 H0 F (ρ.set i (some (.l es true))) σ (upd H a (.lst ys)) := by
  obtain ⟨a', xs, g1, g2, g3, g4, g5⟩ := x.own i ds b e
  rw [h] at g1
  cases g1
  have fu : Same F (upd H a (.lst ys)) := fun c u q => by rw [upd_ne (ne_of_none q g4)]; exact x.fh c u q
  refine ⟨fu, ⟨x.ent.f, fun c u q => ?_, x.ent.s⟩, by rw [List.length_set]; exact x.len, fun j y q => ?_, fun j fs c q => ?_, fun j k fs gs c c' a' ne q1 q2 q3 => ?_⟩
  · rw [upd_ne (ne_of_none q g5)]; exact x.ent.h c u q
  · rcases get_set_some q with ⟨q1, q2⟩ | ⟨q1, q2⟩
    · cases q2
    · exact x.val j y q2
  · rcases get_set_some q with ⟨q1, q2⟩ | ⟨q1, q2⟩
    · subst q1
      cases q2
      exact ⟨a, ys, h, upd_same, hd, g4, g5⟩
    · obtain ⟨a2, xs2, k1, k2, k3, k4, k5⟩ := x.own j fs c q2
      refine ⟨a2, xs2, k1, ?_, k3, k4, k5⟩
      rw [upd_ne]
      · exact k2
      · intro z
        subst z
        exact x.sep i j ds fs b c a2 q1 e q2 h k1
  · rcases get_set_some q1 with ⟨p1, p2⟩ | ⟨p1, p2⟩
    · rcases get_set_some q2 with ⟨p3, p4⟩ | ⟨p3, p4⟩
      · exact absurd (p1.symm.trans p3) ne
      · subst p1
        exact x.sep i k ds gs b c' a' ne e p4 q3
    · rcases get_set_some q2 with ⟨p3, p4⟩ | ⟨p3, p4⟩
      · subst p3
        exact x.sep j i fs ds c b a' ne p2 e q3
      · exact x.sep j k fs gs c c' a' ne p2 p4 q3
theorem SR.frz (x : SR K F0 H0 F ρ σ H) {i : Nat} {ds : List D} {b : Bool} (e : ρ[i]? = some (some (R.l ds b))) :
    ∃ F', SR K F0 H0 F' (ρ.set i (some (.d (.list ds)))) σ H ∧ Same F F' := by
  obtain ⟨a, xs, g1, g2, g3, g4, g5⟩ := x.own i ds b e
  have sf : Same F (upd F a (.lst xs)) := same_upd g4
  refine ⟨upd F a (.lst xs), ⟨upd_le x.fh g2, ⟨x.ent.f.trans sf, x.ent.h, fun c h1 h2 => ?_⟩, by rw [List.length_set]; exact x.len, fun j y q => ?_, fun j fs c q => ?_, fun j k fs gs c c' a' ne q1 q2 q3 => ?_⟩, sf⟩
  · have ne : c ≠ a := fun z => by subst z; exact h1 g5
    rw [upd_ne ne]; exact x.ent.s c h1 h2
  · rcases get_set_some q with ⟨q1, q2⟩ | ⟨q1, q2⟩
    · subst q1
      cases q2
      exact ⟨.ref a, g1, .lst (.inl upd_same) (dpa_mono sf g3)⟩
    · obtain ⟨v, k1, k2⟩ := x.val j y q2
      exact ⟨v, k1, dp_mono sf k2⟩
  · rcases get_set_some q with ⟨q1, q2⟩ | ⟨q1, q2⟩
    · cases q2
    · obtain ⟨a2, xs2, k1, k2, k3, k4, k5⟩ := x.own j fs c q2
      refine ⟨a2, xs2, k1, k2, dpa_mono sf k3, ?_, k5⟩
      have ne : a2 ≠ a := fun z => by
        subst z
        exact x.sep i j ds fs b c a2 q1 e q2 g1 k1
      rw [upd_ne ne]; exact k4
  · rcases get_set_some q1 with ⟨p1, p2⟩ | ⟨p1, p2⟩
    · cases p2
    · rcases get_set_some q2 with ⟨p3, p4⟩ | ⟨p3, p4⟩
      · cases p4
      · exact x.sep j k fs gs c c' a' ne p2 p4 q3
end
end DL
end
section
set_option maxRecDepth 100000
set_option maxHeartbeats 4000000
namespace DL
open PySem PySem.Spec PyProof.Rows L2
def NewT (xs : List V) (H : Hp) (Q : VK) : Prop := ∀ (p : Addr) (o : Obj), o.dict = none → H p = none → Q (.ref p) (upd H p (.frz o (.tup xs)))
section
variable {X : Cx} {pins : List (Addr × Obj)} {σ : L2.St} {H : Hp} {s : Shared} {Q : VK}
theorem newT_at {xs : List V} {its : List Value} {h' : Heap} {a : Addr} {tk : Nat} (I : Inv X pins σ H s) (r : Vals xs its) (hz : xs.length ≤ sizeLine) (k : ∀ b o, s.heap.get? b = some o → h'.get? b = some o) (hp : s.heap.objs.size ≤ a)
    (e : h'.get? a = some { cls := .type "tuple", data := .seq its.toArray }) (q : NewT xs H Q) : EP X pins σ Q (.ref a) { s with heap := h', toks := tk } :=
  ⟨.ref a, _, I.laid (o := .frz { cls := .type "tuple", data := .seq its.toArray } (.tup xs)) (t' := tk) k hp (show _ ∧ _ ∧ _ from ⟨e, hz, its, r, ⟨_, e, rfl, _, rfl⟩⟩), rfl, q a { cls := .type "tuple", data := .seq its.toArray } rfl (I.hok.fresh hp)⟩
def tTupX (t : TA) : TE := fun σ H Q => t σ H fun xs H1 => xs.length ≤ sizeLine ∧ NewT xs H1 Q
theorem pe_tupX {es : List Expr} {t : TA} {k : Nat} {pos : Pos} (h : PA X es t) : PE X (.Tuple es k pos) (tTupX t) := by
  refine ⟨fun pins s σ H Q I hq => ?_⟩
  refine wpAny_Tuple_spliced (thn (h.run pos pins s σ H _ I hq) fun us s1 w1 => ?_)
  obtain ⟨xs, H1, I1, r, z, q⟩ := w1
  exact ⟨by rw [← r.length]; exact z, newT_at (tk := s1.toks) I1 r z (fun b u e => Heap.get?_push_of_some _ e) (Nat.le_refl _) (Heap.get?_push_size _ rfl) q⟩
theorem call_tupX : CallR X (.type "tuple") (fun xs H Q => ∃ p ys, xs = [.ref p] ∧ ((SqL X.K H p ys ∧ NewT ys H Q) ∨ (SqT X.K H p ys ∧ Q (.ref p) H))) := by
  intro pins s σ H xs us Q I r h
  obtain ⟨p, ys, rfl, h⟩ := h
  obtain ⟨u, rfl, rx⟩ := vals1 r
  cases rx
  rcases h with ⟨hq, q⟩ | ⟨hq, q⟩
  · obtain ⟨its, r2, pl, hz⟩ := I.list hq
    have hlen := r2.length
    refine call_tuple_list pl.isList (fun h2 kp => ?_) (by simp only [List.size_toArray] <;> omega)
    have I1 : Inv X pins σ H { s with heap := h2 } := I.kept (t' := s.toks) kp
    exact newT_at (s := { s with heap := h2 }) (tk := s.toks) I1 r2 hz (fun b o e => Heap.get?_push_of_some _ e) (Nat.le_refl _) (Heap.get?_push_size _ rfl) q
  · obtain ⟨its, r2, pl, hz⟩ := I.tuple hq
    exact call_tuple_same pl ⟨.ref p, H, I, rfl, q⟩
def rCatX (K : PySem.W.Frag) : R2 := fun x y H Q => ∃ a b xs ys, x = .ref a ∧ y = .ref b ∧ SqT K H a xs ∧ SqT K H b ys ∧ xs.length + ys.length ≤ sizeLine ∧
  (xs = [] → Q (.ref b) H) ∧ (xs ≠ [] → ys = [] → Q (.ref a) H) ∧ (xs ≠ [] → ys ≠ [] → NewT (xs ++ ys) H Q)
theorem op_catX : OpR X (binaryOp .Add) (rCatX X.K) := by
  intro pins s σ H x y v u Q I rx ry h
  obtain ⟨a, b, xs, ys, rfl, rfl, ha, hb, hz, q0, q1, q2⟩ := h
  cases rx
  cases ry
  obtain ⟨its, r1, p1, _⟩ := I.tuple ha
  obtain ⟨its2, r2, p2, _⟩ := I.tuple hb
  by_cases hx : xs = []
  · subst hx
    cases r1
    exact cat_tup0 p1 p2 ⟨.ref b, H, I, rfl, q0 rfl⟩
  · refine HT.cat_tup p1 p2 (fun z => hx (r1.nil_iff.mp z)) (fun z => ⟨.ref a, H, I, rfl, q1 hx (r2.nil_iff.mp z)⟩) (fun z => ?_) (by rw [← r1.length, ← r2.length]; exact hz)
    exact newT_at (tk := s.toks) I (r1.append r2) (by rw [List.length_append]; exact hz) (fun b ob q => Heap.get?_push_of_some _ q) (Nat.le_refl _) (Heap.get?_push_size _ rfl) (q2 hx fun w => z (r2.nil_iff.mpr w))
def rSlX2 (K : PySem.W.Frag) : V → Option Int → Option Int → Hp → VK → Prop := fun x lo hi H Q => ∃ a xs, x = .ref a ∧ SqT K H a xs ∧
  (HT.sIx xs.length 0 lo = 0 ∧ HT.sIx xs.length xs.length hi = xs.length → Q (.ref a) H) ∧ (¬ (HT.sIx xs.length 0 lo = 0 ∧ HT.sIx xs.length xs.length hi = xs.length) → NewT (cutV xs lo hi) H Q)
theorem sl_tupX : SlR X (rSlX2 X.K) := by
  intro pins s σ H x v vl vu lo hi sl Q I rx hs pl pu h
  obtain ⟨a, xs, rfl, hx, q1, q2⟩ := h
  cases rx
  obtain ⟨its, r, ht, hz⟩ := I.tuple hx
  have hlen : its.toArray.size = xs.length := by rw [List.size_toArray]; exact r.length.symm
  refine ⟨"tuple", _, PyProof.Rows.slot_tuple_getitem.lookup, ht.typeIs, ?_⟩
  by_cases hw : HT.sIx xs.length 0 lo = 0 ∧ HT.sIx xs.length xs.length hi = xs.length
  · exact getItem_tuple_whole ht hs pl pu (by rw [hlen]; exact hw) ⟨.ref a, H, I, rfl, q1 hw⟩
  · refine HT.getItem_tuple_cut ht hs pl pu (by rw [hlen]; exact hw) ?_ (by rw [hlen]; exact hz)
    rw [hlen]
    exact newT_at (tk := s.toks) I ((r.drop (HT.sIx xs.length 0 lo)).take (HT.sIx xs.length xs.length hi - HT.sIx xs.length 0 lo)) (Nat.le_trans (cutV_length xs lo hi) hz) (fun b ob q => Heap.get?_push_of_some _ q) (Nat.le_refl _) (Heap.get?_push_size _ rfl) (q2 hw)
end
def SqS (K : PySem.W.Frag) (H : Hp) (t : Bool) (a : Addr) (xs : List V) : Prop := match t with
  | true => SqT K H a xs
  | false => SqL K H a xs
def IterS (h : Heap) (t : Bool) (it a : Addr) (i : Nat) : Prop := match t with
  | true => h.IsTupleIter it a i
  | false => h.IsListIter it a i
def IsS (h : Heap) (t : Bool) (a : Addr) (its : Array Value) : Prop := match t with
  | true => h.IsTuple a its
  | false => h.IsList a its
def itO (t : Bool) (a : Addr) : Obj := match t with
  | true => { cls := .type "tuple_iterator", data := .fields #[.ref a, .int 0 0] }
  | false => { cls := .type "list_iterator", data := .fields #[.ref a, .int 0 0] }
theorem begS (t : Bool) (a : Addr) (its : Array Value) : Begins (.ref a) (itO t a) fun h => IsS h t a its := by
  cases t
  · exact begins_list a its
  · exact begins_tuple a its
theorem IterS.begin {h : Heap} {t : Bool} {it a : Addr} (e : h.get? it = some (itO t a)) : IterS h t it a 0 := by
  cases t
  · exact ⟨_, e, rfl, rfl⟩
  · exact ⟨_, e, rfl, rfl⟩
theorem IterS.at {h h' : Heap} {t : Bool} {it a : Addr} {i : Nat} (x : IterS h t it a i) (k : ∀ o, h.get? it = some o → h'.get? it = some o) : IterS h' t it a i := by
  cases t
  · exact Heap.IsListIter.at x k
  · exact Heap.IsTupleIter.at x k
theorem IterS.obj {h : Heap} {t : Bool} {it a : Addr} {i : Nat} (x : IterS h t it a i) : ∃ o, h.get? it = some o ∧ ∀ v, o.data ≠ .cell v := by
  cases t
  · obtain ⟨o, e, _, d⟩ := x
    exact ⟨o, e, fun v q => by rw [d] at q; cases q⟩
  · obtain ⟨o, e, _, d⟩ := x
    exact ⟨o, e, fun v q => by rw [d] at q; cases q⟩
theorem drawsS {prog : Program} {w : World} {A : Around} (hh : A.handled = none) (t : Bool) (it a : Addr) (hne : a ≠ it) (its : Array Value) :
    Draws prog w A it [it, a] its.size (fun i v => its[i]? = some v) (fun i h => IterS h t it a i ∧ IsS h t a its) := by
  cases t
  · exact Draws.list hh it a hne its
  · exact Draws.tuple hh it a hne its
theorem IsS.lt {h : Heap} {t : Bool} {a : Addr} {its : Array Value} (x : IsS h t a its) : a < h.objs.size := by
  cases t
  · obtain ⟨o, e, _⟩ := x; exact Heap.lt_size e
  · obtain ⟨o, e, _⟩ := x; exact Heap.lt_size e
section
variable {X : Cx} {pins : List (Addr × Obj)} {σ : L2.St} {H : Hp} {s : Shared}
theorem invS (I : Inv X pins σ H s) {t : Bool} {a : Addr} {xs : List V} (h : SqS X.K H t a xs) : ∃ its : List Value, Vals xs its ∧ IsS s.heap t a its.toArray ∧ xs.length ≤ sizeLine := by
  cases t
  · obtain ⟨its, r, p, z⟩ := I.list h
    exact ⟨its, r, p.isList, z⟩
  · obtain ⟨its, r, p, z⟩ := I.tuple h
    exact ⟨its, r, p, z⟩
theorem injS (I : Inv X pins σ H s) {t : Bool} {a : Addr} {xs ys : List V} (h : SqS X.K H t a xs) (g : SqS X.K H t a ys) : xs = ys := by
  cases t
  · exact I.list_inj h g
  · exact I.tuple_inj h g
end
def ItzS (K : PySem.W.Frag) (ta tb : Bool) (a b : Addr) : L2.It :=
  ⟨fun i H => ∃ (xs ys : List V) (x y : V), SqS K H ta a xs ∧ SqS K H tb b ys ∧ xs[i]? = some x ∧ ys[i]? = some y,
    fun i H v H' => ∃ T x y o, v = .ref T ∧ H T = none ∧ o.dict = none ∧ H' = upd H T (.frz o (.tup [x, y])) ∧ (∀ xs, SqS K H ta a xs → xs[i]? = some x) ∧ ∀ ys, SqS K H tb b ys → ys[i]? = some y,
    fun i H => ∃ xs ys : List V, SqS K H ta a xs ∧ SqS K H tb b ys ∧ i = min xs.length ys.length⟩
structure ZS (z TI TO i1 i2 a b : Addr) : Prop where
  TIz : TI ≠ z
  TOz : TO ≠ z
  TITO : TI ≠ TO
  TI1 : TI ≠ i1
  TI2 : TI ≠ i2
  z1 : z ≠ i1
  z2 : z ≠ i2
  T1 : TO ≠ i1
  T2 : TO ≠ i2
  i12 : i1 ≠ i2
  az : z ≠ a
  aT : TO ≠ a
  a1 : a ≠ i1
  a2 : i2 ≠ a
  bz : z ≠ b
  bT : TO ≠ b
  b1 : i1 ≠ b
  b2 : b ≠ i2
theorem ZS.sep {z TI TO i1 i2 a b : Addr} (D : ZS z TI TO i1 i2 a b) : ZipSep2 z TI TO i1 i2 [i1, a] [i2, b] where
  TIz := D.TIz
  TOz := D.TOz
  TITO := D.TITO
  TIi1 := D.TI1
  mem1 := by simp
  zf1 := by simp only [List.mem_cons, List.not_mem_nil, or_false, not_or]; exact ⟨D.z1, D.az⟩
  Tf1 := by simp only [List.mem_cons, List.not_mem_nil, or_false, not_or]; exact ⟨D.T1, D.aT⟩
  TIi2 := D.TI2
  mem2 := by simp
  zf2 := by simp only [List.mem_cons, List.not_mem_nil, or_false, not_or]; exact ⟨D.z2, D.bz⟩
  Tf2 := by simp only [List.mem_cons, List.not_mem_nil, or_false, not_or]; exact ⟨D.T2, D.bT⟩
  sep1_2 := by simp only [List.mem_cons, List.not_mem_nil, or_false, not_or]; exact ⟨D.i12, D.b1⟩
  sep2_1 := by simp only [List.mem_cons, List.not_mem_nil, or_false, not_or]; exact ⟨Ne.symm D.i12, D.a2⟩
theorem ZS.new {n a b : Nat} (ha : a < n) (hb : b < n) : ZS (n + 4) (n + 2) (n + 3) n (n + 1) a b := by
  constructor <;> (intro h; have h : (_ : Nat) = _ := h; omega)
theorem turn_zipS {P : Program} {w : World} {K : PySem.W.Frag} {elts : List Expr} {kk : Nat} {tpos : Pos} {a b z TI TO i1 i2 : Addr} {ta tb : Bool} (D : ZS z TI TO i1 i2 a b) :
    Turn P w K (.Tuple elts kk tpos) (ItzS K ta tb a b) [z, TI, TO, i1, i2] z (fun i h => IsZip h z TI TO .none ∧ IsTupOf2 h TI (.ref i1) (.ref i2) ∧ (∃ x y, IsTupOf2 h TO x y) ∧ IterS h ta i1 a i ∧ IterS h tb i2 b i) where
  mem := by simp
  obj := fun i h st c hc => by
    obtain ⟨hz, hTI, ⟨x, y, hTO⟩, h1, h2⟩ := st
    simp only [List.mem_cons, List.not_mem_nil, or_false] at hc
    rcases hc with q | q | q | q | q <;> rw [q]
    · exact ⟨_, hz, fun v q => nomatch q⟩
    · exact ⟨_, hTI, fun v q => nomatch q⟩
    · exact ⟨_, hTO, fun v q => nomatch q⟩
    · exact h1.obj
    · exact h2.obj
  keep := fun i h h' st k => by
    obtain ⟨hz, hTI, ⟨x, y, hTO⟩, h1, h2⟩ := st
    exact ⟨k z (by simp) _ hz, k TI (by simp) _ hTI, ⟨x, y, k TO (by simp) _ hTO⟩, h1.at fun o q => k i1 (by simp) o q, h2.at fun o q => k i2 (by simp) o q⟩
  item := by
    intro X hP hw hK hc i pins s σ H E I hf st hg
    subst hP hw hK
    obtain ⟨hz, hTI, ⟨x0, y0, hTO⟩, h1, h2⟩ := st
    obtain ⟨xs, ys, x, y, hqx, hqy, hx, hy⟩ := hg
    obtain ⟨its, rv, p, _⟩ := invS I hqx
    obtain ⟨its2, rv2, p2, _⟩ := invS I hqy
    obtain ⟨u, hu, ru⟩ := rv.get hx
    obtain ⟨u2, hu2, ru2⟩ := rv2.get hy
    have l1 : i < its.toArray.size := by rw [List.size_toArray]; exact (List.getElem?_eq_some_iff.mp hu).1
    have l2 : i < its2.toArray.size := by rw [List.size_toArray]; exact (List.getElem?_eq_some_iff.mp hu2).1
    have hzl : z < s.heap.objs.size := Heap.lt_size hz
    refine wpAny_pyNext_zipD2_item D.sep (drawsS (A := X.A.in1) (I.ok.hd hc) ta i1 a D.a1 its.toArray) (drawsS (A := X.A.in1) (I.ok.hd hc) tb i2 b D.b2 its2.toArray) hz hTI hTO ⟨h1, p⟩ ⟨h2, p2⟩ l1 l2 fun x1 x2 h' tk e1 e2 z' TO' s1 s2 hT hsz hk => ?_
    have e1 : x1 = u := by
      have e3 : its[i]? = some x1 := by simpa using e1
      rw [hu] at e3
      exact (Option.some.inj e3).symm
    have e2 : x2 = u2 := by
      have e3 : its2[i]? = some x2 := by simpa using e2
      rw [hu2] at e3
      exact (Option.some.inj e3).symm
    subst e1 e2
    refine ⟨_, rfl, wpAny_letOwnedTupleGo_zip (s := { s with heap := h', toks := tk }) z' fun h'' z'' sb => ?_⟩
    have hT2 : h''.get? s.heap.objs.size = some { cls := .type "tuple", data := .seq [x1, x2].toArray } := (sb.2 _ (Nat.ne_of_gt hzl)).trans hT
    have new : ObjOk X.prog X.w (upd H s.heap.objs.size (.frz { cls := .type "tuple", data := .seq [x1, x2].toArray } (.tup [x, y]))) h'' s.heap.objs.size (.frz { cls := .type "tuple", data := .seq [x1, x2].toArray } (.tup [x, y])) :=
      ⟨hT2, by show 2 ≤ sizeLine; decide, [x1, x2], .cons ru (.cons ru2 .nil), ⟨_, hT2, rfl, _, rfl⟩⟩
    have I1 := I.turnedNew (t' := tk) (h' := h'') (ch := [z, TI, TO, i1, i2]) (fun c o hb q => (sb.2 c (fun q' => hb (by simp [q']))).trans (hk c o (fun q' => hb (by simp [q'])) (fun q' => hb (by simp [q'])) (fun q' => hb (by simp [q'])) (fun q' => hb (by simp [q'])) q)) hf (Nat.le_refl _) new
    refine ⟨.ref s.heap.objs.size, _, I1, rfl, ⟨_, x, y, _, rfl, I.hok.fresh (Nat.le_refl _), rfl, rfl, fun l hl => by rw [injS I hl hqx]; exact hx, fun l hl => by rw [injS I hl hqy]; exact hy⟩, ⟨z'', ?_, ⟨x1, x2, ?_⟩, ?_, ?_⟩, fun c hcm => ?_⟩
    · exact (sb.2 _ D.TIz).trans (hk _ _ D.TIz D.TITO D.TI1 D.TI2 hTI)
    · exact (sb.2 _ D.TOz).trans TO'
    · exact s1.1.at fun o q => (sb.2 _ (Ne.symm D.z1)).trans q
    · exact s2.1.at fun o q => (sb.2 _ (Ne.symm D.z2)).trans q
    · have hlt : c < s.heap.objs.size := by
        simp only [List.mem_cons, List.not_mem_nil, or_false] at hcm
        rcases hcm with q | q | q | q | q <;> rw [q]
        · exact hzl
        · exact Heap.lt_size hTI
        · exact Heap.lt_size hTO
        · obtain ⟨o, e, _⟩ := h1.obj; exact Heap.lt_size e
        · obtain ⟨o, e, _⟩ := h2.obj; exact Heap.lt_size e
      rw [upd_ne (Nat.ne_of_lt hlt)]
      exact (hf c hcm).1
  done := by
    intro X hP hw hK hc i pins s σ H E I hf st hg
    subst hP hw hK
    obtain ⟨hz, hTI, ⟨x0, y0, hTO⟩, h1, h2⟩ := st
    obtain ⟨xs, ys, hqx, hqy, hend⟩ := hg
    obtain ⟨its, rv, p, _⟩ := invS I hqx
    obtain ⟨its2, rv2, p2, _⟩ := invS I hqy
    have l1 := rv.length
    have l2 := rv2.length
    have z1 : its.toArray.size = its.length := List.size_toArray
    have z2 : its2.toArray.size = its2.length := List.size_toArray
    exact wpAny_pyNext_zipD2_end D.sep (drawsS (A := X.A.in1) (I.ok.hd hc) ta i1 a D.a1 its.toArray) (drawsS (A := X.A.in1) (I.ok.hd hc) tb i2 b D.b2 its2.toArray) hz hTI hTO ⟨h1, p⟩ ⟨h2, p2⟩ (by omega) (by omega) (by omega) fun h' tk hk => ⟨rfl, I.turnedL (t' := tk) (ch := [z, TI, TO, i1, i2]) (fun c o hb q =>
      hk c o (fun q' => hb (by simp [q'])) (fun q' => hb (by simp [q'])) (fun q' => hb (by simp [q'])) (fun q' => hb (by simp [q'])) q) hf⟩
  self := fun A i s Q E st h => wpAny_pyIter_zip st.1 h
def iZipS (K : PySem.W.Frag) (t : TA) : TI := fun σ H R => t σ H fun vs H1 => ∃ (a b : Addr) (ta tb : Bool) (xs ys : List V), vs = [.ref a, .ref b] ∧ SqS K H1 ta a xs ∧ SqS K H1 tb b ys ∧ (xs.length ≤ sizeLine → R (ItzS K ta tb a b) H1)
theorem pi_zipS {X : Cx} {e e2 : Expr} {t : TA} {p pos tpos : Pos} {elts : List Expr} {kk : Nat} (hg : Gl X "zip") (hm : X.mg "zip" = none) (ha : PA X [e, e2] t)
    (hs : starEach [e, e2] X.env = (false, eval e X.env) :: starEach [e2] X.env := by rfl) (hpl : (backTo pos (starEach [e2] X.env)).any (·.1) = false := by rfl) :
    PI X (.Tuple elts kk tpos) (.Call (.Name "zip" p) [e, e2] [] pos) (iZipS X.K t) := by
  refine ⟨fun pins s σ H R I h => ?_⟩
  refine Call_ (ld_blt I hg hm PyProof.Rows.boot_zip (PyProof.Rows.callWith_type1 (thn (ha.run pos pins s σ H _ I h) fun us s1 w1 => ?_) hs hpl))
  obtain ⟨vs, H1, I1, r1, a, b, ta, tb, xs, ys, ex, hqx, hqy, q⟩ := w1
  subst ex
  cases r1 with
  | cons r rr =>
    cases rr with
    | cons r' rr =>
      cases rr
      cases r
      cases r'
      obtain ⟨its, rv, p1, hz1⟩ := invS I1 hqx
      obtain ⟨its2, rv2, p2, _⟩ := invS I1 hqy
      refine zip_begins2 (begS ta a its.toArray) (begS tb b its2.toArray) p1 p2 fun h' hz hTI hTO h1 h2 hsz hk => wpAny_pyIter_zip hz ?_
      have I2 : Inv X pins σ H1 { s1 with heap := h' } := I1.kept (t' := s1.toks) hk
      have n := s1.heap.objs.size
      refine ⟨s1.heap.objs.size + 4, [s1.heap.objs.size + 4, s1.heap.objs.size + 2, s1.heap.objs.size + 3, s1.heap.objs.size, s1.heap.objs.size + 1], _, _, H1, rfl, I2, turn_zipS (ta := ta) (tb := tb) (ZS.new p1.lt p2.lt), ⟨hz, hTI, ⟨_, _, hTO⟩, IterS.begin h1, IterS.begin h2⟩, fun c hc => ?_, q hz1⟩
      have hle : s1.heap.objs.size ≤ c := by
        simp only [List.mem_cons, List.not_mem_nil, or_false] at hc
        rcases hc with q | q | q | q | q <;> rw [q] <;> first | exact Nat.le_refl _ | exact Nat.le_add_right _ _
      exact I1.fpOk hle (I1.hok.fresh hle)
end DL
end
section
set_option maxRecDepth 100000
set_option maxHeartbeats 4000000
namespace DL
open PySem PySem.Spec PyProof.Rows L2
structure ItSrc (prog : Program) (w : World) (T : String) (I S : Addr) (wr : List Addr) (n : Nat) (St : Nat → Array Value → Heap → Prop) : Prop where
  type : ∀ i acc (s : Shared), St i acc s.heap → s.TypeIs (.ref I) T
  hint : ∀ (A : Around) acc (s : Shared) (Q : Bool → Shared → Prop) (E : Value → Shared → Prop), St 0 acc s.heap → (∀ b, Q b s) → wpAny (model prog w) A (Builtin.List.listLengthHint (.ref I)) Q E s
  self : ∀ (A : Around) i acc (s : Shared) (Q : Value → Shared → Prop) (E : Value → Shared → Prop), St i acc s.heap → Q (.ref I) s → wpAny (model prog w) A (pyIter (.ref I)) Q E s
  frame : ∀ i acc h h', St i acc h → (∀ b, b ≠ S → ∀ o, h.get? b = some o → h'.get? b = some o) → St i acc h'
  item : ∀ (A : Around), A.handled = none → ∀ i acc (s : Shared) (Q : Option Value → Shared → Prop) (E : Value → Shared → Prop), i < n → acc.size = i → St i acc s.heap → (∃ o, s.heap.get? S = some o) →
    (∀ v h' tk, St (i + 1) (acc.push v) h' → (∀ b o, b ∉ wr → s.heap.get? b = some o → h'.get? b = some o) → Q (some v) { s with heap := h', toks := tk }) → wpAny (model prog w) A (pyNext (.ref I)) Q E s
  done : ∀ (A : Around), A.handled = none → ∀ acc (s : Shared) (Q : Option Value → Shared → Prop) (E : Value → Shared → Prop), acc.size = n → St n acc s.heap →
    (∀ h' tk, (∀ b o, b ∉ wr → s.heap.get? b = some o → h'.get? b = some o) → Q none { s with heap := h', toks := tk }) → wpAny (model prog w) A (pyNext (.ref I)) Q E s
  notList : (Value.type T == Value.type "list") = false
  notTuple : (Value.type T == Value.type "tuple") = false
  ne : S ≠ I
  off : S ∉ wr
section
variable {prog : Program} {w : World} {A : Around} {E : Value → Shared → Prop} {s : Shared} {T : String} {I S : Addr} {wr : List Addr} {n : Nat} {St : Nat → Array Value → Heap → Prop}
def Left (St : Nat → Array Value → Heap → Prop) (wr : List Addr) (S : Addr) (n : Nat) (h h' : Heap) (acc : Array Value) (c : Nat) : Prop :=
  acc.size = n ∧ (∃ hb, St n acc hb ∧ ∀ b o, b ∉ wr → hb.get? b = some o → b ≠ S → h'.get? b = some o) ∧ (∀ b o, b ≠ S → b ∉ wr → h.get? b = some o → h'.get? b = some o) ∧ h'.get? S = some { cls := .type "list", dict := none, data := .seq acc c, slots := #[] }
theorem loopX {R : Result → Shared → Prop} (W : ItSrc prog w T I S wr n St) (hh : A.handled = none) (hn : n ≤ sizeLine) (res : Value) :
    ∀ (k i : Nat) (s : Shared) (acc : Array Value) (c : Nat), n - i = k → i ≤ n → acc.size = i → St i acc s.heap → s.heap.get? S = some { cls := .type "list", dict := none, data := .seq acc c, slots := #[] } →
    (∀ h' tk acc' c', Left St wr S n s.heap h' acc' c' → R (.ok (.ret res)) { s with heap := h', toks := tk }) → codeAny (model prog w) A (.builtin "list.extend.loop" ⟨[.ref S, .ref I, res], []⟩) R s := by
  intro k
  induction k with
  | zero =>
    intro i s acc c hk hi ha hst hS hR
    have hin : i = n := by omega
    subst hin
    refine codeAny_builtin F.entry_extend_loop ?_
    rw [Around.under_plainId F.plain_extend_loop _]
    show wpAny _ A.in1 (pyNext (.ref I) >>= _) _ _ s
    refine wpAny_bind (W.done A.in1 hh acc s _ _ ha hst fun h' tk hm => ?_)
    exact wpAny_pure (hR h' tk acc c ⟨ha, ⟨s.heap, hst, fun b o hb e _ => hm b o hb e⟩, fun b o _ hb e => hm b o hb e, hm S _ W.off hS⟩)
  | succ k ih =>
    intro i s acc c hk hi ha hst hS hR
    have hlt : i < n := by omega
    refine codeAny_builtin F.entry_extend_loop ?_
    rw [Around.under_plainId F.plain_extend_loop _]
    show wpAny _ A.in1 (pyNext (.ref I) >>= _) _ _ s
    refine wpAny_bind (W.item A.in1 hh i acc s _ _ hlt ha hst ⟨_, hS⟩ fun v h' tk hst' hm => ?_)
    have hS' := hm S _ W.off hS
    show wpAny _ A.in1 (updateSeq S (·.push v) >>= _) _ _ _
    refine wpAny_bind ?_
    refine wpAny_updateSeq (s := { s with heap := h', toks := tk }) hS' rfl (wpAny_pure ⟨plainId_quiet F.plain_extend_loop _, ih (i + 1) _ (acc.push v) _ (by omega) hlt (by rw [Array.size_push, ha]) (W.frame _ _ h' _ hst' fun b hb o e => ?_) (Heap.get?_update_self _ hS' rfl) fun h'' tk'' acc' c' L => ?_⟩)
      (by rw [ha]; omega) (by show (acc.push v).size ≤ sizeLine + 1; rw [Array.size_push, ha]; omega)
    · exact (Heap.get?_update_other _ _ (Ne.symm hb)).trans e
    · obtain ⟨l1, l2, l3, l4⟩ := L
      exact hR h'' tk'' acc' c' ⟨l1, l2, fun b o hb hw e => l3 b o hb hw ((Heap.get?_update_other _ _ (Ne.symm hb)).trans (hm b o hw e)), l4⟩
theorem extendX {R : Result → Shared → Prop} (W : ItSrc prog w T I S wr n St) (hh : A.handled = none) (hn : n ≤ sizeLine) (res : Value) (c₀ : Nat) (hst : St 0 #[] s.heap) (hS : s.heap.get? S = some { cls := .type "list", data := .seq #[] c₀ })
    (hR : ∀ h' tk acc' c', Left St wr S n s.heap h' acc' c' → R (.ok (.ret res)) { s with heap := h', toks := tk }) :
    wpAny (model prog w) A.in1 (Builtin.List.listExtendWith (.ref S) (.ref I) res)
      (fun fin s' => match fin with | .done f => R (.ok f) s' | .again c' => c'.quiet = true ∧ codeAny (model prog w) A c' R s') (fun e s' => R (.error e) s') s := by
  unfold Builtin.List.listExtendWith
  refine wpAny_bind (wpAny_typeOf (T := T) (W.type _ _ s hst) ?_)
  have h1 : Builtin.List.listSameRef (.ref S) (.ref I) = false := by simp [Builtin.List.listSameRef, W.ne]
  simp only [h1, W.notList, W.notTuple, Bool.or_false, Bool.false_eq_true, if_false]
  refine wpAny_bind (W.self _ _ _ _ _ _ hst ?_)
  refine wpAny_bind (wpAny_holding (W.hint _ _ _ _ _ hst fun b => ?_))
  refine wpAny_ite_split (fun _ => ?_) (fun _ => wpAny_pure ⟨plainId_quiet PySem.F.plain_extend_loop _, loopX W hh hn res n 0 s #[] c₀ rfl (Nat.zero_le _) rfl hst hS hR⟩)
  refine wpAny_bind (wpAny_rule ?_)
  refine wpAny_bind ?_
  show wpAny _ _ (updateSeq S (·.push .none) >>= fun _ => updateSeq S (·.pop)) _ _ _
  refine wpAny_bind (wpAny_updateSeq hS rfl ?_)
  have hS₂ := Heap.get?_update_self (Obj.mapSeq (·.push Value.none)) hS rfl
  refine wpAny_updateSeq (hz := by seq_fits) hS₂ rfl ?_
  have hS₃ := Heap.get?_update_self (Obj.mapSeq (·.pop)) hS₂ rfl
  have oth : ∀ b o, b ≠ S → s.heap.get? b = some o → ((s.heap.update S (Obj.mapSeq (·.push Value.none))).update S (Obj.mapSeq (·.pop))).get? b = some o :=
    fun b o hb e => (Heap.get?_update_other _ _ (Ne.symm hb)).trans ((Heap.get?_update_other _ _ (Ne.symm hb)).trans e)
  refine wpAny_pure ⟨plainId_quiet PySem.F.plain_extend_loop _, loopX W hh hn res n 0 _ _ _ rfl (Nat.zero_le _) rfl (W.frame _ _ s.heap _ hst fun b hb o e => oth b o hb e) hS₃ fun h' tk acc' c' L => ?_⟩
  obtain ⟨l1, l2, l3, l4⟩ := L
  exact hR h' tk acc' c' ⟨l1, l2, fun b o hb hw e => l3 b o hb hw (oth b o hb e), l4⟩
theorem initX {R : Result → Shared → Prop} (W : ItSrc prog w T I S wr n St) (hh : A.handled = none) (hn : n ≤ sizeLine) (hst : St 0 #[] s.heap) (hS : s.heap.get? S = some { cls := .type "list", data := .seq #[] })
    (hR : ∀ h' tk acc' c', Left St wr S n s.heap h' acc' c' → R (.ok (.ret .none)) { s with heap := h', toks := tk }) :
    wpAny (model prog w) A.in1 (Builtin.«list.__init__» ⟨[.ref S, .ref I], []⟩)
      (fun fin s' => match fin with | .done f => R (.ok f) s' | .again c' => c'.quiet = true ∧ codeAny (model prog w) A c' R s') (fun e s' => R (.error e) s') s := by
  show wpAny _ _ (do let old ← Builtin.List.listItems (.ref S); Builtin.List.listUpdate (.ref S) (fun _ => #[]); letGo old.toList.reverse; Builtin.List.listExtendWith (.ref S) (.ref I) .none) _ _ s
  refine wpAny_bind ?_
  unfold Builtin.List.listItems
  refine wpAny_bind (wpAny_seqItems hS rfl (wpAny_pure ?_))
  show wpAny _ _ (updateSeq S (fun _ => #[]) >>= fun _ => letGo (#[] : Array Value).toList.reverse >>= fun _ => Builtin.List.listExtendWith (.ref S) (.ref I) .none) _ _ s
  refine wpAny_bind (wpAny_updateSeq hS rfl ?_)
  have hS₂ := Heap.get?_update_self (Obj.mapSeq (fun _ => (#[] : Array Value))) hS rfl
  have oth : ∀ b o, b ≠ S → s.heap.get? b = some o → (s.heap.update S (Obj.mapSeq (fun _ => (#[] : Array Value)))).get? b = some o :=
    fun b o hb e => (Heap.get?_update_other _ _ (Ne.symm hb)).trans e
  refine wpAny_bind (wpAny_letGo ?_)
  refine extendX W hh hn .none _ (W.frame _ _ s.heap _ hst fun b hb o e => oth b o hb e) hS₂ fun h' tk acc' c' L => ?_
  obtain ⟨l1, l2, l3, l4⟩ := L
  exact hR h' tk acc' c' ⟨l1, l2, fun b o hb hw e => l3 b o hb hw (oth b o hb e), l4⟩
theorem call_listX {Q : Value → Shared → Prop} (W : ItSrc prog w T I s.heap.objs.size wr n St) (hh : A.handled = none) (hn : n ≤ sizeLine) (hst : ∀ o, St 0 #[] (s.heap.push o))
    (hQ : ∀ h' tk acc' c', Left St wr s.heap.objs.size n s.heap h' acc' c' → Q (.ref s.heap.objs.size) { s with heap := h', toks := tk }) :
    wpAny (model prog w) A (call (.type "list") [.ref I]) Q E s := by
  refine callType_codes (Q₁ := fun obj s₁ => obj = .ref s.heap.objs.size ∧ s₁ = { s with heap := s.heap.push { cls := .type "list", data := .seq #[] } }) PySem.F.called_list (PySem.F.typeCall_list_1 _) PySem.F.entry_list_init
    (code_list_new _ ⟨rfl, rfl⟩) fun obj s₁ h₁ => ?_
  obtain ⟨rfl, rfl⟩ := h₁
  have hS : (s.heap.push { cls := .type "list", data := .seq #[] }).get? s.heap.objs.size = some { cls := .type "list", data := .seq #[] } := Heap.get?_push_size _ rfl
  refine ⟨⟨_, hS, rfl⟩, PySem.F.args_list_init_2 _ _, initX (A := A.in1) W hh hn (hst _) hS fun h' tk acc' c' L => ?_⟩
  obtain ⟨l1, l2, l3, l4⟩ := L
  exact ⟨rfl, hQ h' tk acc' c' ⟨l1, l2, fun b o hb hw e => l3 b o hb hw (Heap.get?_push_of_some _ e), l4⟩⟩
end
theorem zip_nolen : typeLookup (.type "zip") "__len__" = pure none := by rw [typeLookup_type, builtinLookup_eq_fast]; kernel_rfl
theorem zip_nohint : typeLookup (.type "zip") "__length_hint__" = pure none := by rw [typeLookup_type, builtinLookup_eq_fast]; kernel_rfl
section
variable {prog : Program} {w : World} {A : Around} {E : Value → Shared → Prop} {s : Shared} {z TI TO i1 i2 : Addr} {fp1 fp2 : List Addr} {n1 n2 i : Nat} {P1 P2 : Nat → Value → Prop} {St1 St2 : Nat → Heap → Prop}
theorem heldD_item {T : Addr} {f : Bool} {oT : Obj} {Q : Value → Shared → Prop} (S : ZipSep2 z TI TO i1 i2 fp1 fp2) (D1 : Draws prog w A i1 fp1 n1 P1 St1) (D2 : Draws prog w A i2 fp2 n2 P2 St2)
    (hz : PySem.IsZipHeld s.heap z TI TO T f) (hT : s.heap.get? T = some oT) (hTI : IsTupOf2 s.heap TI (.ref i1) (.ref i2)) (st1 : St1 i s.heap) (st2 : St2 i s.heap) (hlt1 : i < n1) (hlt2 : i < n2)
    (hQ : ∀ x1 x2 h' tk, P1 i x1 → P2 i x2 → PySem.IsZipHeld h' z TI TO T true → St1 (i + 1) h' → St2 (i + 1) h' → IsTupOf2 h' s.heap.objs.size x1 x2 →
      (∀ c o, c ≠ z → c ≠ i1 → c ≠ i2 → s.heap.get? c = some o → h'.get? c = some o) → Q (.ref s.heap.objs.size) { s with heap := h', toks := tk }) :
    wpAny (model prog w) A (Builtin.«zip.__next__» ⟨[.ref z], []⟩) (fun fin s' => ∃ v, fin = .done (.ret v) ∧ Q v s') E s := by
  show wpAny _ _ (field (.ref z) 2 >>= _) _ _ _
  refine wpAny_bind (wpAny_field hz rfl (x := .bool false) rfl ?_)
  show wpAny _ _ (field (.ref z) 3 >>= _) _ _ _
  refine wpAny_bind (wpAny_field hz rfl (x := .ref TI) rfl ?_)
  refine wpAny_bind (wpAny_seqItems hTI rfl ?_)
  show wpAny _ _ (Builtin.SmallTypes.ownedTupleIsFree (.ref z) >>= _) _ _ _
  refine wpAny_bind (PySem.wpAny_tupleHeld_zip hz hT fun h₁ hz₁ hs₁ => ?_)
  simp only [Bool.false_eq_true, if_false]
  refine wpAny_bind ?_
  rw [← Array.forIn_toList]
  simp only [List.forIn_cons, List.forIn_nil]
  refine wpAny_bind (wpAny_bind (wpAny_holding ?_))
  show wpAny _ _ (Builtin.SmallTypes.nextOf (.ref i1) >>= _) _ _ _
  refine wpAny_bind (D1.item i { s with heap := h₁ } _ _ hlt1 (D1.over st1 hs₁ S.zf1) fun x1 h₂ tk1 hx1 sn1 hs₂ => wpAny_pure ?_)
  replace hs₂ : Heap.SameBut i1 h₁ h₂ := hs₂
  refine wpAny_pure ?_
  refine wpAny_bind (wpAny_bind (wpAny_holding ?_))
  show wpAny _ _ (Builtin.SmallTypes.nextOf (.ref i2) >>= _) _ _ _
  refine wpAny_bind (D2.item i { s with heap := h₂, toks := tk1 } _ _ hlt2 (D2.over (D2.over st2 hs₁ S.zf2) hs₂ S.sep1_2) fun x2 h₃ tk2 hx2 sn2 hs₃ => wpAny_pure ?_)
  replace hs₃ : Heap.SameBut i2 h₂ h₃ := hs₃
  refine wpAny_pure (wpAny_pure ?_)
  show wpAny _ _ (newTuple [x1, x2] >>= _) _ _ _
  refine wpAny_bind (wpAny_newTuple ?_)
  have hsz : h₃.objs.size = s.heap.objs.size := by rw [hs₃.1, hs₂.1, hs₁.1]
  have hz₃ : PySem.IsZipHeld h₃ z TI TO T true := hs₃.extBut _ _ S.zi2 (hs₂.extBut _ _ S.zi1 hz₁)
  have hk : ∀ c o, c ≠ z → c ≠ i1 → c ≠ i2 → s.heap.get? c = some o → h₃.get? c = some o := fun c o c1 c2 c3 e => hs₃.extBut _ _ c3 (hs₂.extBut _ _ c2 (hs₁.extBut _ _ c1 e))
  have sn1' : St1 (i + 1) h₃ := D1.over sn1 hs₃ S.sep2_1
  refine wpAny_pure ⟨_, rfl, ?_⟩
  show Q (.ref h₃.objs.size) _
  have hp : IsTupOf2 (h₃.push { cls := .type "tuple", data := .seq #[x1, x2] }) h₃.objs.size x1 x2 := Heap.get?_push_size _ rfl
  rw [hsz] at hp ⊢
  exact hQ x1 x2 _ _ hx1 hx2 (Heap.get?_push_of_some _ hz₃) (D1.frame _ _ _ sn1' fun b _ o e => Heap.get?_push_of_some _ e) (D2.frame _ _ _ sn2 fun b _ o e => Heap.get?_push_of_some _ e) hp fun c o c1 c2 c3 e => Heap.get?_push_of_some _ (hk c o c1 c2 c3 e)
theorem heldD_end {T : Addr} {f : Bool} {oT : Obj} {Q : Fin → Shared → Prop} (S : ZipSep2 z TI TO i1 i2 fp1 fp2) (D1 : Draws prog w A i1 fp1 n1 P1 St1) (D2 : Draws prog w A i2 fp2 n2 P2 St2)
    (hz : PySem.IsZipHeld s.heap z TI TO T f) (hT : s.heap.get? T = some oT) (hTI : IsTupOf2 s.heap TI (.ref i1) (.ref i2)) (st1 : St1 i s.heap) (st2 : St2 i s.heap) (hle1 : i ≤ n1) (hle2 : i ≤ n2) (hend : i = n1 ∨ i = n2)
    (hE : ∀ h' tk e, (∀ c o, c ≠ z → c ≠ i1 → c ≠ i2 → s.heap.get? c = some o → h'.get? c = some o) → (∃ o, h'.get? e = some o ∧ o.cls = .type "StopIteration") → E (.ref e) { s with heap := h', toks := tk }) :
    wpAny (model prog w) A (Builtin.«zip.__next__» ⟨[.ref z], []⟩) Q E s := by
  show wpAny _ _ (field (.ref z) 2 >>= _) _ _ _
  refine wpAny_bind (wpAny_field hz rfl (x := .bool false) rfl ?_)
  show wpAny _ _ (field (.ref z) 3 >>= _) _ _ _
  refine wpAny_bind (wpAny_field hz rfl (x := .ref TI) rfl ?_)
  refine wpAny_bind (wpAny_seqItems hTI rfl ?_)
  show wpAny _ _ (Builtin.SmallTypes.ownedTupleIsFree (.ref z) >>= _) _ _ _
  refine wpAny_bind (PySem.wpAny_tupleHeld_zip hz hT fun h₁ hz₁ hs₁ => ?_)
  simp only [Bool.false_eq_true, if_false]
  refine wpAny_bind ?_
  rw [← Array.forIn_toList]
  simp only [List.forIn_cons, List.forIn_nil]
  refine wpAny_bind (wpAny_bind (wpAny_holding ?_))
  show wpAny _ _ (Builtin.SmallTypes.nextOf (.ref i1) >>= _) _ _ _
  by_cases hlt1 : i < n1
  · refine wpAny_bind (D1.item i { s with heap := h₁ } _ _ hlt1 (D1.over st1 hs₁ S.zf1) fun x1 h₂ tk1 hx1 sn1 hs₂ => wpAny_pure ?_)
    replace hs₂ : Heap.SameBut i1 h₁ h₂ := hs₂
    refine wpAny_pure ?_
    refine wpAny_bind (wpAny_bind (wpAny_holding ?_))
    show wpAny _ _ (Builtin.SmallTypes.nextOf (.ref i2) >>= _) _ _ _
    have hi2 : i = n2 := by omega
    refine wpAny_bind (D2.done { s with heap := h₂, toks := tk1 } _ _ (by rw [← hi2]; exact D2.over (D2.over st2 hs₁ S.zf2) hs₂ S.sep1_2) fun h₃ e hs₃ he => ?_)
    replace hs₃ : Heap.ExtBut i2 h₂ h₃ := hs₃
    exact hE h₃ tk1 e (fun c o c1 c2 c3 x => hs₃ _ _ c3 (hs₂.extBut _ _ c2 (hs₁.extBut _ _ c1 x))) he
  · have hi1 : i = n1 := by omega
    refine wpAny_bind (D1.done { s with heap := h₁ } _ _ (by rw [← hi1]; exact D1.over st1 hs₁ S.zf1) fun h₂ e hs₂ he => ?_)
    replace hs₂ : Heap.ExtBut i1 h₁ h₂ := hs₂
    exact hE h₂ s.toks e (fun c o c1 c2 _ x => hs₂ _ _ c2 (hs₁.extBut _ _ c1 x)) he
theorem nextHeld_item {T : Addr} {f : Bool} {oT : Obj} {Q : Option Value → Shared → Prop} (S : ZipSep2 z TI TO i1 i2 fp1 fp2) (D1 : Draws prog w A.in1 i1 fp1 n1 P1 St1) (D2 : Draws prog w A.in1 i2 fp2 n2 P2 St2)
    (hz : PySem.IsZipHeld s.heap z TI TO T f) (hT : s.heap.get? T = some oT) (hTI : IsTupOf2 s.heap TI (.ref i1) (.ref i2)) (st1 : St1 i s.heap) (st2 : St2 i s.heap) (hlt1 : i < n1) (hlt2 : i < n2)
    (hQ : ∀ x1 x2 h' tk, P1 i x1 → P2 i x2 → PySem.IsZipHeld h' z TI TO T true → St1 (i + 1) h' → St2 (i + 1) h' → IsTupOf2 h' s.heap.objs.size x1 x2 →
      (∀ c o, c ≠ z → c ≠ i1 → c ≠ i2 → s.heap.get? c = some o → h'.get? c = some o) → Q (some (.ref s.heap.objs.size)) { s with heap := h', toks := tk }) :
    wpAny (model prog w) A (pyNext (.ref z)) Q E s := by
  have hTy : s.TypeIs (.ref z) "zip" := ⟨_, hz, rfl⟩
  unfold pyNext
  exact wpAny_bind (wpAny_attempt (wpAny_callSpecial?_slot (name := Str.ofString "__next__") hTy PySem.F.slot_zip_next
    (wpAny_call_entry PySem.F.slot_zip_next hTy PySem.F.entry_zip_next
      (heldD_item S D1 D2 hz hT hTI st1 st2 hlt1 hlt2 fun x1 x2 h' tk a1 a2 a3 a4 a5 a6 a7 => wpAny_pure (hQ x1 x2 h' tk a1 a2 a3 a4 a5 a6 a7)) (PySem.F.args_zip_next_1 _))))
theorem nextHeld_end {T : Addr} {f : Bool} {oT : Obj} {Q : Option Value → Shared → Prop} (S : ZipSep2 z TI TO i1 i2 fp1 fp2) (D1 : Draws prog w A.in1 i1 fp1 n1 P1 St1) (D2 : Draws prog w A.in1 i2 fp2 n2 P2 St2)
    (hz : PySem.IsZipHeld s.heap z TI TO T f) (hT : s.heap.get? T = some oT) (hTI : IsTupOf2 s.heap TI (.ref i1) (.ref i2)) (st1 : St1 i s.heap) (st2 : St2 i s.heap) (hle1 : i ≤ n1) (hle2 : i ≤ n2) (hend : i = n1 ∨ i = n2)
    (hQ : ∀ h' tk, (∀ c o, c ≠ z → c ≠ i1 → c ≠ i2 → s.heap.get? c = some o → h'.get? c = some o) → Q none { s with heap := h', toks := tk }) : wpAny (model prog w) A (pyNext (.ref z)) Q E s := by
  have hTy : s.TypeIs (.ref z) "zip" := ⟨_, hz, rfl⟩
  unfold pyNext
  refine wpAny_bind (wpAny_attempt (wpAny_callSpecial?_slot (name := Str.ofString "__next__") hTy PySem.F.slot_zip_next
    (wpAny_call_entry PySem.F.slot_zip_next hTy PySem.F.entry_zip_next (heldD_end S D1 D2 hz hT hTI st1 st2 hle1 hle2 hend fun h' tk e hk he => ?_) (PySem.F.args_zip_next_1 _))))
  obtain ⟨o, ho, hc⟩ := he
  refine wpAny_bind (wpAny_isInstance (T := "StopIteration") (b := true) ⟨o, ho, hc⟩ isSubtype_stop ?_)
  exact wpAny_pure (hQ _ _ hk)
end
theorem Inv.turnedMany {X : Cx} {pins : List (Addr × Obj)} {σ : L2.St} {H H' : Hp} {s : Shared} {h' : Heap} {t' : Nat} {ch : List Addr} (I : Inv X pins σ H s) (k : ∀ b o, b ∉ ch → s.heap.get? b = some o → h'.get? b = some o) (hf : ∀ b ∈ ch, FpOk X pins H b)
    (old : ∀ b u, H b = some u → H' b = some u) (new : ∀ b u, H' b = some u → H b = some u ∨ (s.heap.objs.size ≤ b ∧ ObjOk X.prog X.w H' h' b u)) : Inv X pins σ H' { s with heap := h', toks := t' } := by
  have nit : ∀ b u, H b = some u → b ∉ ch := fun b u e z => by
    have q := (hf b z).1
    rw [q] at e; cases e
  refine I.step (g' := s.gens) (d' := s.drawn) (ch := ch) (fun b hb => ⟨(hf b hb).2.2.2.1, (hf b hb).2.1, (hf b hb).2.2.2.2.1, (hf b hb).2.2.2.2.2⟩) (fun b o _ _ hc e _ => k b o hc e) (fun b o _ _ hc e _ => ⟨o.slots, k b o hc e⟩)
    (fun b o _ e n => ?_) (fun b o hc e => ⟨o, k b o hc e⟩) (fun b xs e => old b _ e) (fun b o u e => old b _ e) (fun b ps e => ⟨#[], by rw [old b _ e]; simp⟩) (fun m hm => ?_) (fun b u e => ?_) I.bare
  · cases q : H' b with
    | none => rfl
    | some u =>
      rcases new b u q with z | ⟨z, _⟩
      · rw [n] at z; cases z
      · exact absurd (Heap.lt_size e) (Nat.not_lt.mpr z)
  · obtain ⟨o, es, ep, ho, r⟩ := hm
    exact ⟨o, es, ep, k _ o (fun z => (hf _ z).2.1 rfl) ho, r⟩
  · rcases new b u e with e | ⟨_, e⟩
    · refine (I.hok b u e).stay (fun c v hc q => k c v ?_ q) (fun c q => old c _ q) fun c xs q => old c _ q
      rcases hc with z | z
      · rw [z]; exact nit b u e
      · exact nit c _ z
    · exact e
def layT : Hp → List Addr → List Obj → List V → List V → Hp
  | H, t :: ts, o :: os, x :: xs, y :: ys => layT (upd H t (.frz o (.tup [x, y]))) ts os xs ys
  | H, _, _, _, _ => H
theorem layT_off {b : Addr} : ∀ (ts : List Addr) (os : List Obj) (xs ys : List V) (H : Hp), b ∉ ts → layT H ts os xs ys b = H b
  | [], _, _, _, _, _ => by unfold layT; rfl
  | t :: ts, [], _, _, _, _ => by unfold layT; rfl
  | t :: ts, o :: os, [], _, _, _ => by unfold layT; rfl
  | t :: ts, o :: os, x :: xs, [], _, _ => by unfold layT; rfl
  | t :: ts, o :: os, x :: xs, y :: ys, H, h => by
    unfold layT
    rw [layT_off ts os xs ys _ (fun z => h (List.mem_cons_of_mem _ z)), upd_ne (fun z => h (by rw [z]; exact List.mem_cons_self))]
theorem layT_in {b : Addr} {u : HO} : ∀ (ts : List Addr) (os : List Obj) (xs ys : List V) (H : Hp), ts.Nodup → layT H ts os xs ys b = some u → H b = some u ∨ ∃ (j : Nat) (o : Obj) (x y : V), ts[j]? = some b ∧ os[j]? = some o ∧ xs[j]? = some x ∧ ys[j]? = some y ∧ u = .frz o (.tup [x, y])
  | [], _, _, _, _, _, h => by unfold layT at h; exact .inl h
  | t :: ts, [], _, _, _, _, h => by unfold layT at h; exact .inl h
  | t :: ts, o :: os, [], _, _, _, h => by unfold layT at h; exact .inl h
  | t :: ts, o :: os, x :: xs, [], _, _, h => by unfold layT at h; exact .inl h
  | t :: ts, o :: os, x :: xs, y :: ys, H, nd, h => by
    unfold layT at h
    rcases layT_in ts os xs ys _ (List.nodup_cons.mp nd).2 h with e | ⟨j, o', x', y', e1, e2, e3, e4, e5⟩
    · by_cases hb : b = t
      · subst hb
        rw [upd_same] at e
        exact .inr ⟨0, o, x, y, rfl, rfl, rfl, rfl, (Option.some.inj e).symm⟩
      · rw [upd_ne hb] at e
        exact .inl e
    · exact .inr ⟨j + 1, o', x', y', e1, e2, e3, e4, e5⟩
theorem layT_old {ts : List Addr} {os : List Obj} {xs ys : List V} {H : Hp} (h : ∀ t ∈ ts, H t = none) : Same H (layT H ts os xs ys) := fun b u e => by
  rw [layT_off _ _ _ _ _ fun z => by rw [h b z] at e; cases e]
  exact e
theorem layT_le : ∀ (ts : List Addr) (os : List Obj) (xs ys : List V) (F H : Hp), Same F H → (∀ t ∈ ts, H t = none) → ts.Nodup → Same (layT F ts os xs ys) (layT H ts os xs ys)
  | [], _, _, _, _, _, s, _, _ => by unfold layT; exact s
  | t :: ts, [], _, _, _, _, s, _, _ => by unfold layT; exact s
  | t :: ts, o :: os, [], _, _, _, s, _, _ => by unfold layT; exact s
  | t :: ts, o :: os, x :: xs, [], _, _, s, _, _ => by unfold layT; exact s
  | t :: ts, o :: os, x :: xs, y :: ys, F, H, s, h, nd => by
    unfold layT
    refine layT_le ts os xs ys _ _ (same_new s) (fun b hb => ?_) (List.nodup_cons.mp nd).2
    rw [upd_ne (fun z => (List.nodup_cons.mp nd).1 (by rw [← z]; exact hb))]
    exact h b (List.mem_cons_of_mem _ hb)
theorem dqa_layT {K : PySem.W.Frag} : ∀ (ts : List Addr) (os : List Obj) (xs ys : List V) (ds es : List D) (F : Hp), (∀ t ∈ ts, F t = none) → ts.Nodup → (∀ o ∈ os, o.dict = none) → ts.length = min xs.length ys.length → os.length = ts.length → DqAll K F xs ds → DqAll K F ys es →
    DqAll K (layT F ts os xs ys) (ts.map V.ref) (ds.zipWith (fun d e => .tuple [d, e]) es)
  | [], _, xs, ys, ds, es, F, _, _, _, hl, _, h, g => by
    have l1 := dpa_len h
    have l2 := dpa_len g
    have : ds.zipWith (fun d e => (.tuple [d, e] : D)) es = [] := by
      apply List.eq_nil_of_length_eq_zero
      rw [List.length_zipWith]
      simp only [List.length_nil] at hl
      omega
    rw [this]
    exact .nil
  | t :: ts, [], _, _, _, _, _, _, _, _, _, h, _, _ => by cases h
  | t :: ts, o :: os, [], _, _, _, _, _, _, _, h, _, _, _ => by simp at h
  | t :: ts, o :: os, x :: xs, [], _, _, _, _, _, _, h, _, _, _ => by simp at h
  | t :: ts, o :: os, x :: xs, y :: ys, ds, es, F, hn, nd, hd, hl, ho, h, g => by
    cases h with
    | cons h1 h2 =>
      cases g with
      | cons g1 g2 =>
        have nf := hn t List.mem_cons_self
        have s1 : Same F (upd F t (.frz o (.tup [x, y]))) := same_upd nf
        have nt : t ∉ ts := (List.nodup_cons.mp nd).1
        have fr : ∀ b ∈ ts, upd F t (.frz o (.tup [x, y])) b = none := fun b hb => by
          rw [upd_ne (fun z => nt (by rw [← z]; exact hb))]
          exact hn b (List.mem_cons_of_mem _ hb)
        have s2 := layT_old (os := os) (xs := xs) (ys := ys) fr
        unfold layT
        rw [List.map_cons, List.zipWith_cons_cons]
        refine .cons ?_ (dqa_layT ts os xs ys _ _ _ fr (List.nodup_cons.mp nd).2 (fun u hu => hd u (List.mem_cons_of_mem _ hu)) (by simp only [List.length_cons] at hl; omega) (Nat.succ.inj ho) (dpa_mono s1 h2) (dpa_mono s1 g2))
        refine dp_mono s2 (.tup (xs := [x, y]) (.inl (.inr ⟨o, upd_same⟩)) (fun _ => Nd.new (hd o List.mem_cons_self)) (dpa_mono s1 (.cons h1 (.cons g1 .nil))))
theorem refs_of : ∀ {l : List Value}, (∀ v ∈ l, ∃ T : Addr, v = Value.ref T) → ∃ ts : List Addr, l = ts.map Value.ref
  | [], _ => ⟨[], rfl⟩
  | v :: l, h => by
    obtain ⟨T, e⟩ := h v List.mem_cons_self
    obtain ⟨ts, e2⟩ := refs_of fun u hu => h u (List.mem_cons_of_mem _ hu)
    exact ⟨T :: ts, by rw [e, e2]; rfl⟩
theorem vals_refs : ∀ as : List Addr, Vals (as.map V.ref) (as.map Value.ref)
  | [] => .nil
  | _ :: as => .cons rfl (vals_refs as)
def ZipSt (z TI TO i1 i2 a b S : Addr) (ta tb : Bool) (its its2 : Array Value) : Nat → Array Value → Heap → Prop := fun i acc h =>
  IsTupOf2 h TI (.ref i1) (.ref i2) ∧ (IterS h ta i1 a i ∧ IsS h ta a its) ∧ (IterS h tb i2 b i ∧ IsS h tb b its2) ∧
  ((IsZip h z TI TO .none ∧ ∃ x y, IsTupOf2 h TO x y) ∨ ∃ T f oT, IsZipHeld h z TI TO T f ∧ h.get? T = some oT ∧ T ≠ z ∧ T ≠ i1 ∧ T ≠ i2 ∧ T ≠ S) ∧
  acc.toList.Nodup ∧ ∀ (j : Nat) (v : Value), acc[j]? = some v → ∃ (T : Addr) (x y : Value), v = Value.ref T ∧ S < T ∧ IsTupOf2 h T x y ∧ its[j]? = some x ∧ its2[j]? = some y
theorem zipSrc {prog : Program} {w : World} {z TI TO i1 i2 a b S : Addr} {ta tb : Bool} {its its2 : Array Value} (D : ZS z TI TO i1 i2 a b) (hz : z < S) (hTI : TI < S) (hTO : TO < S) (h1 : i1 < S) (h2 : i2 < S) (ha : a < S) (hb : b < S) :
    ItSrc prog w "zip" z S [z, TO, i1, i2] (min its.size its2.size) (ZipSt z TI TO i1 i2 a b S ta tb its its2) where
  type := fun i acc s st => by
    obtain ⟨_, _, _, q, _⟩ := st
    rcases q with ⟨q, _⟩ | ⟨T, f, oT, q, _⟩
    · exact ⟨_, q, rfl⟩
    · exact ⟨_, q, rfl⟩
  hint := fun A acc s Q E st h => by
    have hT : s.TypeIs (.ref z) "zip" := by
      obtain ⟨_, _, _, q, _⟩ := st
      rcases q with ⟨q, _⟩ | ⟨T, f, oT, q, _⟩
      · exact ⟨_, q, rfl⟩
      · exact ⟨_, q, rfl⟩
    unfold Builtin.List.listLengthHint
    refine wpAny_bind (wpAny_specialOf hT zip_nolen ?_)
    show wpAny _ A (specialOf (Value.ref z) (Str.ofString "__length_hint__") >>= _) _ _ _
    refine wpAny_bind (wpAny_specialOf hT zip_nohint ?_)
    exact wpAny_pure (h _)
  self := fun A i acc s Q E st h => by
    obtain ⟨_, _, _, q, _⟩ := st
    have hT : s.TypeIs (.ref z) "zip" := by
      rcases q with ⟨q, _⟩ | ⟨T, f, oT, q, _⟩
      · exact ⟨_, q, rfl⟩
      · exact ⟨_, q, rfl⟩
    refine wpAny_pyIter_slot hT PySem.F.slot_zip_iter (wpAny_call_entry PySem.F.slot_zip_iter hT PySem.F.entry_zip_iter ?_ (PySem.F.args_zip_iter_1 _))
    show wpAny _ _ (ret (.ref z)) _ _ s
    exact wpAny_pure ⟨_, rfl, "zip", _, hT, PySem.F.slot_zip_next.lookup, h⟩
  frame := fun i acc h h' st k => by
    obtain ⟨q1, ⟨q2, q3⟩, ⟨q4, q5⟩, q6, q7, q8⟩ := st
    have ne : ∀ {c : Addr}, c < S → c ≠ S := fun h => Nat.ne_of_lt h
    refine ⟨k _ (ne hTI) _ q1, ⟨q2.at fun o e => k _ (ne h1) o e, ?_⟩, ⟨q4.at fun o e => k _ (ne h2) o e, ?_⟩, ?_, q7, fun j v e => ?_⟩
    · cases ta
      · exact Heap.IsList.at q3 fun o e => k _ (ne ha) o e
      · exact Heap.IsTuple.at q3 fun o e => k _ (ne ha) o e
    · cases tb
      · exact Heap.IsList.at q5 fun o e => k _ (ne hb) o e
      · exact Heap.IsTuple.at q5 fun o e => k _ (ne hb) o e
    · rcases q6 with ⟨q, x, y, q'⟩ | ⟨T, f, oT, r1, r2, r3, r4, r5, r6⟩
      · exact .inl ⟨k _ (ne hz) _ q, x, y, k _ (ne hTO) _ q'⟩
      · exact .inr ⟨T, f, oT, k _ (ne hz) _ r1, k _ r6 _ r2, r3, r4, r5, r6⟩
    · obtain ⟨T, x, y, e1, e2, e3, e4, e5⟩ := q8 j v e
      exact ⟨T, x, y, e1, e2, k _ (Nat.ne_of_gt e2) _ e3, e4, e5⟩
  item := fun A hh i acc s Q E hi hac st hSo hQ => by
    obtain ⟨q1, ⟨q2, q3⟩, ⟨q4, q5⟩, q6, q7, q8⟩ := st
    have d1 := drawsS (prog := prog) (w := w) (A := A.in1) hh ta i1 a D.a1 its
    have d2 := drawsS (prog := prog) (w := w) (A := A.in1) hh tb i2 b D.b2 its2
    have l1 : i < its.size := by omega
    have l2 : i < its2.size := by omega
    have out : ∀ {T : Addr}, S < T → T ≠ z ∧ T ≠ TO ∧ T ≠ i1 ∧ T ≠ i2 := fun h => ⟨fun e => by rw [e] at h; exact absurd hz (Nat.lt_asymm h), fun e => by rw [e] at h; exact absurd hTO (Nat.lt_asymm h), fun e => by rw [e] at h; exact absurd h1 (Nat.lt_asymm h), fun e => by rw [e] at h; exact absurd h2 (Nat.lt_asymm h)⟩
    have zl : ∃ o, s.heap.get? z = some o := by
      rcases q6 with ⟨q, _⟩ | ⟨T, f, oT, q, _⟩ <;> exact ⟨_, q⟩
    have big : S < s.heap.objs.size := Heap.lt_size hSo.choose_spec
    have fin : ∀ (x1 x2 : Value) (h' : Heap) (tk : Nat), its[i]? = some x1 → its2[i]? = some x2 → (∃ f, IsZipHeld h' z TI TO s.heap.objs.size f ∨ ∃ T oT, IsZipHeld h' z TI TO T f ∧ h'.get? T = some oT ∧ T ≠ z ∧ T ≠ i1 ∧ T ≠ i2 ∧ T ≠ S) → IterS h' ta i1 a (i + 1) ∧ IsS h' ta a its → IterS h' tb i2 b (i + 1) ∧ IsS h' tb b its2 → IsTupOf2 h' s.heap.objs.size x1 x2 →
        (∀ c o, c ≠ z → c ≠ TO → c ≠ i1 → c ≠ i2 → s.heap.get? c = some o → h'.get? c = some o) → Q (some (.ref s.heap.objs.size)) { s with heap := h', toks := tk } := by
      intro x1 x2 h' tk e1 e2 hz' s1 s2 hT hk
      refine hQ (.ref s.heap.objs.size) h' tk ⟨hk _ _ D.TIz D.TITO D.TI1 D.TI2 q1, s1, s2, ?_, ?_, fun j v e => ?_⟩ fun c o hc e => hk c o (fun q => hc (by simp [q])) (fun q => hc (by simp [q])) (fun q => hc (by simp [q])) (fun q => hc (by simp [q])) e
      · obtain ⟨o1, o2, o3, o4⟩ := out big
        obtain ⟨f, q | ⟨T, oT, q⟩⟩ := hz'
        · exact .inr ⟨_, f, _, q, hT, o1, o3, o4, Nat.ne_of_gt big⟩
        · exact .inr ⟨T, f, oT, q⟩
      · rw [Array.toList_push, List.nodup_append]
        refine ⟨q7, by simp, fun v hv u hu => ?_⟩
        rw [List.mem_singleton] at hu
        intro e
        rw [e, hu] at hv
        obtain ⟨j, hj, ej⟩ := List.getElem_of_mem hv
        obtain ⟨T, x, y, f1, f2, f3, _⟩ := q8 j (Value.ref s.heap.objs.size) (by rw [← Array.getElem?_toList, List.getElem?_eq_getElem hj, ej])
        cases f1
        exact absurd (Heap.lt_size f3) (Nat.lt_irrefl _)
      · rw [Array.getElem?_push] at e
        split at e
        · rename_i ej
          cases e
          rw [hac] at ej
          exact ⟨_, x1, x2, rfl, big, hT, by rw [ej]; exact e1, by rw [ej]; exact e2⟩
        · obtain ⟨T, x, y, f1, f2, f3, f4, f5⟩ := q8 j v e
          obtain ⟨o1, o2, o3, o4⟩ := out f2
          exact ⟨T, x, y, f1, f2, hk _ _ o1 o2 o3 o4 f3, f4, f5⟩
    rcases q6 with ⟨q, x0, y0, q'⟩ | ⟨T, f, oT, r1, r2, r3, r4, r5, r6⟩
    · · refine wpAny_pyNext_zipD2_item D.sep d1 d2 q q1 q' ⟨q2, q3⟩ ⟨q4, q5⟩ l1 l2 fun x1 x2 h' tk e1 e2 z' TO' s1 s2 hT hsz hk => ?_
        exact fin x1 x2 h' tk e1 e2 ⟨false, .inl z'⟩ s1 s2 hT hk
    · · refine nextHeld_item D.sep d1 d2 r1 r2 q1 ⟨q2, q3⟩ ⟨q4, q5⟩ l1 l2 fun x1 x2 h' tk e1 e2 z' s1 s2 hT hk => ?_
        exact fin x1 x2 h' tk e1 e2 ⟨true, .inr ⟨T, oT, z', hk _ _ r3 r4 r5 r2, r3, r4, r5, r6⟩⟩ s1 s2 hT fun c o c1 _ c3 c4 e => hk c o c1 c3 c4 e
  done := fun A hh acc s Q E hac st hQ => by
    obtain ⟨q1, ⟨q2, q3⟩, ⟨q4, q5⟩, q6, q7, q8⟩ := st
    have d1 := drawsS (prog := prog) (w := w) (A := A.in1) hh ta i1 a D.a1 its
    have d2 := drawsS (prog := prog) (w := w) (A := A.in1) hh tb i2 b D.b2 its2
    rcases q6 with ⟨q, x0, y0, q'⟩ | ⟨T, f, oT, r1, r2, r3, r4, r5, r6⟩
    · exact wpAny_pyNext_zipD2_end D.sep d1 d2 q q1 q' ⟨q2, q3⟩ ⟨q4, q5⟩ (by omega) (by omega) (by omega) fun h' tk hk => hQ h' tk fun c o hc e => hk c o (fun q => hc (by simp [q])) (fun q => hc (by simp [q])) (fun q => hc (by simp [q])) (fun q => hc (by simp [q])) e
    · exact nextHeld_end D.sep d1 d2 r1 r2 q1 ⟨q2, q3⟩ ⟨q4, q5⟩ (by omega) (by omega) (by omega) fun h' tk hk => hQ h' tk fun c o hc e => hk c o (fun q => hc (by simp [q])) (fun q => hc (by simp [q])) (fun q => hc (by simp [q])) e
  notList := by decide
  notTuple := by decide
  ne := Nat.ne_of_gt hz
  off := by simp only [List.mem_cons, List.not_mem_nil, or_false, not_or]; exact ⟨Nat.ne_of_gt hz, Nat.ne_of_gt hTO, Nat.ne_of_gt h1, Nat.ne_of_gt h2⟩
end DL
end
section
set_option maxRecDepth 100000
set_option maxHeartbeats 4000000
namespace DL
open PySem PySem.Spec PyProof.Rows L2
def tListZip (K : PySem.W.Frag) (t : TA) : TE := fun σ H Q => t σ H fun vs H1 => ∃ (a b : Addr) (ta tb : Bool) (xs ys : List V), vs = [.ref a, .ref b] ∧ SqS K H1 ta a xs ∧ SqS K H1 tb b ys ∧
  ∀ (p : Addr) (ts : List Addr) (os : List Obj), H1 p = none → (∀ t ∈ ts, H1 t = none) → p ∉ ts → ts.Nodup → (∀ o ∈ os, o.dict = none) → ts.length = min xs.length ys.length → os.length = ts.length → Q (.ref p) (upd (layT H1 ts os xs ys) p (.lst (ts.map V.ref)))
section
variable {X : Cx}
theorem zip_of {e e2 : Expr} {t : TA} {p pos : Pos} (hg : Gl X "zip") (hm : X.mg "zip" = none) (ha : PA X [e, e2] t)
    (hs : starEach [e, e2] X.env = (false, eval e X.env) :: starEach [e2] X.env) (hpl : (backTo pos (starEach [e2] X.env)).any (·.1) = false)
    {pins : List (Addr × Obj)} {s : Shared} {σ : L2.St} {H : Hp} {R : List V → Hp → Prop} (I : Inv X pins σ H s) (h : t σ H R) {Q : Value → Shared → Prop}
    (q : ∀ (s1 : Shared) (vs : List V) (H1 : Hp), Inv X pins σ H1 s1 → R vs H1 → ∀ (us : List Value), Vals vs us → wpAny (model X.prog X.w) X.A (call (.type "zip") us) Q X.xe s1) :
    wpAny (model X.prog X.w) X.A (eval (.Call (.Name "zip" p) [e, e2] [] pos) X.env) Q X.xe s := by
  refine Call_ (ld_blt I hg hm PyProof.Rows.boot_zip (PyProof.Rows.callWith_type1 (thn (ha.run pos pins s σ H _ I h) fun us s1 w1 => ?_) hs hpl))
  obtain ⟨vs, H1, I1, r1, w⟩ := w1
  exact q s1 vs H1 I1 w us r1
theorem pe_listZip {e e2 : Expr} {t : TA} {p p2 pos pos2 : Pos} (hc : X.calm = true) (hg : Gl X "list") (hm : X.mg "list" = none) (hg2 : Gl X "zip") (hm2 : X.mg "zip" = none) (ha : PA X [e, e2] t)
    (hs : starEach [e, e2] X.env = (false, eval e X.env) :: starEach [e2] X.env := by rfl) (hpl : (backTo pos2 (starEach [e2] X.env)).any (·.1) = false := by rfl)
    (hs2 : starEach [.Call (.Name "zip" p2) [e, e2] [] pos2] X.env = (false, eval (.Call (.Name "zip" p2) [e, e2] [] pos2) X.env) :: starEach [] X.env := by rfl) :
    PE X (.Call (.Name "list" p) [.Call (.Name "zip" p2) [e, e2] [] pos2] [] pos) (tListZip X.K t) := by
  refine ⟨fun pins s σ H Q I h => ?_⟩
  refine Call_ (ld_blt I hg hm boot_list (PyProof.Rows.callWith_type1 (args_cons (zip_of hg2 hm2 ha hs hpl I h fun s1 vs H1 I1 q us r1 => ?_) hs2) hs2 rfl))
  obtain ⟨a, b, ta, tb, xs, ys, ex, hqx, hqy, q⟩ := q
  subst ex
  cases r1 with
  | cons r rr =>
    cases rr with
    | cons r' rr =>
      cases rr
      cases r
      cases r'
      obtain ⟨its, rv, p1, hz1⟩ := invS I1 hqx
      obtain ⟨its2, rv2, p2, hz2⟩ := invS I1 hqy
      refine zip_begins2 (begS ta a its.toArray) (begS tb b its2.toArray) p1 p2 fun h' hz hTI hTO h1 h2 hsz hk => args_nil ?_
      have I2 : Inv X pins σ H1 { s1 with heap := h' } := I1.kept (t' := s1.toks) hk
      obtain ⟨n, hn⟩ : ∃ n, n = s1.heap.objs.size := ⟨_, rfl⟩
      rw [← hn] at hz hTI hTO h1 h2 hsz ⊢
      have hsz' : h'.objs.size = n + 5 := hsz
      have al : a < n := by rw [hn]; exact p1.lt
      have bl : b < n := by rw [hn]; exact p2.lt
      have la := rv.length
      have lb := rv2.length
      have src := zipSrc (prog := X.prog) (w := X.w) (S := h'.objs.size) (ta := ta) (tb := tb) (its := its.toArray) (its2 := its2.toArray) (ZS.new (n := n) al bl) (by rw [hsz']; exact Nat.add_lt_add_left (by decide) n) (by rw [hsz']; exact Nat.add_lt_add_left (by decide) n) (by rw [hsz']; exact Nat.add_lt_add_left (by decide) n)
        (by rw [hsz']; exact Nat.lt_add_of_pos_right (by decide)) (by rw [hsz']; exact Nat.add_lt_add_left (by decide) n) (by rw [hsz']; exact Nat.lt_trans al (Nat.lt_add_of_pos_right (by decide))) (by rw [hsz']; exact Nat.lt_trans bl (Nat.lt_add_of_pos_right (by decide)))
      have kp : ∀ (o : Obj) (c : Addr) (u : Obj), h'.get? c = some u → (h'.push o).get? c = some u := fun o c u e => Heap.get?_push_of_some _ e
      refine call_listX (s := { s1 with heap := h' }) src (I2.ok.hd hc) (by rw [List.size_toArray, List.size_toArray]; omega) (fun o => ⟨kp o _ _ hTI, ⟨IterS.begin (kp o _ _ h1), ?_⟩, ⟨IterS.begin (kp o _ _ h2), ?_⟩, .inl ⟨kp o _ _ hz, _, _, kp o _ _ hTO⟩, by simp, fun j v e => by simp at e⟩) fun h'' tk acc c L => ?_
      · cases ta
        · exact Heap.IsList.at p1 fun u e => kp o _ _ (hk _ _ e)
        · exact Heap.IsTuple.at p1 fun u e => kp o _ _ (hk _ _ e)
      · cases tb
        · exact Heap.IsList.at p2 fun u e => kp o _ _ (hk _ _ e)
        · exact Heap.IsTuple.at p2 fun u e => kp o _ _ (hk _ _ e)
      obtain ⟨l1, ⟨hb, ⟨_, _, _, _, nd, tups⟩, l2⟩, l3, l4⟩ := L
      have mn : min its.toArray.size its2.toArray.size = min xs.length ys.length := by rw [List.size_toArray, List.size_toArray, la, lb]
      rw [mn] at l1
      obtain ⟨ts, ets⟩ := refs_of (l := acc.toList) fun v hv => by
        obtain ⟨j, hj, ej⟩ := List.getElem_of_mem hv
        obtain ⟨T, x, y, e1, _⟩ := tups j v (by rw [← Array.getElem?_toList, List.getElem?_eq_getElem hj, ej])
        exact ⟨T, e1⟩
      have lt : ts.length = min xs.length ys.length := by
        have := congrArg List.length ets
        rw [List.length_map, Array.length_toList] at this
        omega
      have ndt : ts.Nodup := by
        rw [ets] at nd
        exact (List.pairwise_map.mp nd).imp fun h z => h (by rw [z])
      have wrS : ∀ c ∈ [n + 4, n + 3, n, n + 1], c < h'.objs.size := fun c hc => by
        rw [hsz']
        simp only [List.mem_cons, List.not_mem_nil, or_false] at hc
        rcases hc with q | q | q | q <;> rw [q] <;> first | exact Nat.add_lt_add_left (by decide) n | exact Nat.lt_add_of_pos_right (by decide)
      have at_ : ∀ (j : Nat) (T : Addr), ts[j]? = some T → ∃ x y, h'.objs.size < T ∧ IsTupOf2 h'' T x y ∧ its[j]? = some x ∧ its2[j]? = some y := fun j T e => by
        obtain ⟨T', x, y, e1, e2, e3, e4, e5⟩ := tups j (.ref T) (by rw [← Array.getElem?_toList, ets, List.getElem?_map, e]; rfl)
        cases e1
        refine ⟨x, y, e2, l2 _ _ (fun hm => absurd (wrS _ hm) (Nat.lt_asymm e2)) e3 (Nat.ne_of_gt e2), by simpa using e4, by simpa using e5⟩
      have mem_at : ∀ T ∈ ts, ∃ j, ts[j]? = some T := fun T hT => by
        obtain ⟨j, hj, e⟩ := List.getElem_of_mem hT
        exact ⟨j, by rw [List.getElem?_eq_getElem hj, e]⟩
      have gt : ∀ T ∈ ts, h'.objs.size < T := fun T hT => by
        obtain ⟨j, e⟩ := mem_at T hT
        obtain ⟨x, y, e2, _⟩ := at_ j T e
        exact e2
      have frT : ∀ T ∈ ts, H1 T = none := fun T hT => I2.hok.fresh (Nat.le_of_lt (gt T hT))
      have frp : H1 h'.objs.size = none := I2.hok.fresh (Nat.le_refl _)
      have pn : h'.objs.size ∉ ts := fun hT => Nat.lt_irrefl _ (gt _ hT)
      -- the tuples' objects
      obtain ⟨os, los, hos⟩ : ∃ os : List Obj, os.length = ts.length ∧ ∀ (j : Nat) (T : Addr), ts[j]? = some T → ∃ o x y, os[j]? = some o ∧ o.dict = none ∧ h''.get? T = some o ∧ its[j]? = some x ∧ its2[j]? = some y ∧ o = { cls := .type "tuple", data := .seq #[x, y] } := by
        refine ⟨(List.range ts.length).map fun j => { cls := .type "tuple", data := .seq #[its.getD j .none, its2.getD j .none] }, by simp, fun j T e => ?_⟩
        obtain ⟨x, y, e2, e3, e4, e5⟩ := at_ j T e
        have hj : j < ts.length := (List.getElem?_eq_some_iff.mp e).1
        have g1 : its.getD j .none = x := by rw [List.getD_eq_getElem?_getD, e4]; rfl
        have g2 : its2.getD j .none = y := by rw [List.getD_eq_getElem?_getD, e5]; rfl
        refine ⟨_, x, y, by rw [List.getElem?_map, List.getElem?_range hj]; rfl, rfl, ?_, e4, e5, ?_⟩
        · show h''.get? T = some _
          dsimp only
          rw [g1, g2]
          exact e3
        · dsimp only
          rw [g1, g2]
      have hd : ∀ o ∈ os, o.dict = none := fun o ho => by
        obtain ⟨j, hj, e⟩ := List.getElem_of_mem ho
        obtain ⟨o', x, y, e1, e2, _⟩ := hos j ts[j] (List.getElem?_eq_getElem (by omega))
        rw [List.getElem?_eq_getElem hj, e] at e1
        rw [Option.some.inj e1]
        exact e2
      have frp' : layT H1 ts os xs ys h'.objs.size = none := by rw [layT_off _ _ _ _ _ pn]; exact frp
      refine ⟨.ref h'.objs.size, upd (layT H1 ts os xs ys) h'.objs.size (.lst (ts.map V.ref)), ?_, rfl, q _ ts os frp frT pn ndt hd lt los⟩
      refine Inv.turnedMany (ch := [n + 4, n + 3, n, n + 1]) I2 (fun c o hc e => l3 c o (Nat.ne_of_lt (Heap.lt_size e)) hc e) (fun c hc => ?_) (fun c u e => ?_) fun c u e => ?_
      · refine I1.fpOk ?_ (I1.hok.fresh ?_) <;> (rw [← hn]; simp only [List.mem_cons, List.not_mem_nil, or_false] at hc; rcases hc with q | q | q | q <;> rw [q] <;> first | exact Nat.le_refl _ | exact Nat.le_add_right _ _)
      · rw [upd_ne (fun z => by rw [z, frp] at e; cases e)]
        exact layT_old frT c u e
      · by_cases hcp : c = h'.objs.size
        · subst hcp
          rw [upd_same] at e
          cases e
          refine .inr ⟨Nat.le_refl _, ?_⟩
          refine ⟨by rw [List.length_map]; omega, acc.toList, c, by rw [ets]; exact vals_refs ts, ?_⟩
          rw [Array.toArray_toList]
          exact l4
        · rw [upd_ne hcp] at e
          rcases layT_in _ _ _ _ _ ndt e with e | ⟨j, o, x, y, e1, e2, e3, e4, e5⟩
          · exact .inl e
          · subst e5
            obtain ⟨o', x', y', f1, f2, f3, f4, f5, f6⟩ := hos j c e1
            rw [e2] at f1
            cases f1
            obtain ⟨x2, g1, g2⟩ := rv.get e3
            obtain ⟨y2, g3, g4⟩ := rv2.get e4
            rw [f4] at g1
            cases g1
            rw [f5] at g3
            cases g3
            have gtc := gt c (List.mem_of_getElem? e1)
            refine .inr ⟨Nat.le_of_lt gtc, f3, by show 2 ≤ sizeLine; decide, [x', y'], .cons g2 (.cons g4 .nil), ⟨o, f3, by rw [f6], _, by rw [f6]⟩⟩
end
def RevSt (it l S : Addr) (items : Array Value) : Nat → Array Value → Heap → Prop := fun i acc h =>
  i ≤ items.size ∧ h.IsRevIter it l ((items.size : Int) - 1 - (i : Int)) ∧ h.IsList l items ∧ ∀ (j : Nat) (v : Value), acc[j]? = some v → items[items.size - 1 - j]? = some v
theorem revSrc {prog : Program} {w : World} {it l S : Addr} {items : Array Value} (hne : l ≠ it) (h1 : it < S) (h2 : l < S) : ItSrc prog w "list_reverseiterator" it S [it] items.size (RevSt it l S items) where
  type := fun i acc s st => Heap.IsRevIter.typeIs st.2.1
  hint := fun A acc s Q E st h => by
    have hT : s.TypeIs (.ref it) "list_reverseiterator" := Heap.IsRevIter.typeIs st.2.1
    unfold Builtin.List.listLengthHint
    refine wpAny_bind (wpAny_specialOf hT RT.nolen_lri ?_)
    show wpAny _ A (specialOf (Value.ref it) (Str.ofString "__length_hint__") >>= _) _ _ _
    refine wpAny_bind (wpAny_specialOf hT RT.hint_lri ?_)
    generalize hid : ("list_reverseiterator.__length_hint__" : String) = id0
    wp_delta
    rw [show splitId id0 = some ("list_reverseiterator", "__length_hint__") from by subst hid; decide +kernel]
    subst hid
    refine wpAny_bind (wpAny_isInstance (b := true) hT (by rw [isSubtype_type]; kernel_rfl) ?_)
    exact wpAny_pure (h _)
  self := fun A i acc s Q E st h => wpAny_pyIter_revIter st.2.1 h
  frame := fun i acc h h' st k => ⟨st.1, st.2.1.at fun o e => k it (Nat.ne_of_lt h1) o e, st.2.2.1.at fun o e => k l (Nat.ne_of_lt h2) o e, st.2.2.2⟩
  item := fun A hh i acc s Q E hi hac st _ hQ => by
    obtain ⟨q1, q2, q3, q4⟩ := st
    refine (Walks.listRev (prog := prog) (w := w) (A := A) hh it l hne items).item i s Q E hi ⟨q1, q2, q3⟩ fun v h' tk hv st' hk => ?_
    refine hQ v h' tk ⟨st'.1, st'.2.1, st'.2.2, fun j u e => ?_⟩ hk
    rw [Array.getElem?_push] at e
    split at e
    · rename_i ej
      cases e
      rw [hac] at ej
      rw [ej]
      exact hv
    · exact q4 j u e
  done := fun A hh acc s Q E hac st hQ => by
    obtain ⟨q1, q2, q3, q4⟩ := st
    exact (Walks.listRev (prog := prog) (w := w) (A := A) hh it l hne items).done s Q E ⟨q1, q2, q3⟩ fun h' tk hk => hQ h' tk hk
  notList := by decide
  notTuple := by decide
  ne := Nat.ne_of_gt h1
  off := by simp only [List.mem_cons, List.not_mem_nil, or_false]; exact Nat.ne_of_gt h1
def tLstRev (K : PySem.W.Frag) (te : TE) : TE := fun σ H Q => te σ H fun v H1 => ∃ (a : Addr) (xs : List V), v = .ref a ∧ SqL K H1 a xs ∧ ∀ q, H1 q = none → Q (.ref q) (upd H1 q (.lst xs.reverse))
theorem pe_listRev {X : Cx} {e : Expr} {te : TE} {p p2 pos pos2 : Pos} (hc : X.calm = true) (hg : Gl X "list") (hm : X.mg "list" = none) (hg2 : Gl X "reversed") (hm2 : X.mg "reversed" = none) (he : PE X e te)
    (hs : starEach [e] X.env = (false, eval e X.env) :: starEach [] X.env := by rfl)
    (hs2 : starEach [.Call (.Name "reversed" p2) [e] [] pos2] X.env = (false, eval (.Call (.Name "reversed" p2) [e] [] pos2) X.env) :: starEach [] X.env := by rfl) :
    PE X (.Call (.Name "list" p) [.Call (.Name "reversed" p2) [e] [] pos2] [] pos) (tLstRev X.K te) := by
  refine ⟨fun pins s σ H Q I h => ?_⟩
  refine Call_ (ld_blt I hg hm boot_list (PyProof.Rows.callWith_type1 (args_cons (Call_ (ld_blt I hg2 hm2 PyProof.Rows.boot_reversed (PyProof.Rows.callWith_type1 (args_cons (thn (he.run pins s σ H _ I h) fun u s1 ⟨v, H1, I1, r1, q1⟩ => args_nil ?_) hs) hs rfl))) hs2) hs2 rfl))
  obtain ⟨a, xs, ev, hq, q⟩ := q1
  subst ev
  obtain rfl : u = Value.ref a := r1
  obtain ⟨its, rv, p', hz⟩ := I1.list hq
  have hl := p'.isList
  obtain ⟨ol, hol, _⟩ := id hl
  have hlt : a < s1.heap.objs.size := Heap.lt_size hol
  refine call_reversed_list hl (args_nil ?_)
  have k0 : ∀ b o, s1.heap.get? b = some o → (s1.heap.push (revObj a ((its.toArray.size : Int) - 1))).get? b = some o := fun b o e => Heap.get?_push_of_some _ e
  have I2 : Inv X pins σ H1 { s1 with heap := s1.heap.push (revObj a ((its.toArray.size : Int) - 1)) } := I1.kept (t' := s1.toks) k0
  have hsz : (s1.heap.push (revObj a ((its.toArray.size : Int) - 1))).objs.size = s1.heap.objs.size + 1 := Heap.size_push ..
  have hn : its.toArray.size ≤ sizeLine := by rw [List.size_toArray, ← rv.length]; exact hz
  have src := revSrc (prog := X.prog) (w := X.w) (it := s1.heap.objs.size) (l := a) (S := (s1.heap.push (revObj a ((its.toArray.size : Int) - 1))).objs.size) (items := its.toArray) (Nat.ne_of_lt hlt) (by rw [hsz]; exact Nat.lt_succ_self _) (by rw [hsz]; exact Nat.lt_succ_of_lt hlt)
  refine call_listX (s := { s1 with heap := s1.heap.push (revObj a ((its.toArray.size : Int) - 1)) }) src (I2.ok.hd hc) hn (fun o => ⟨Nat.zero_le _, ?_, (hl.push _).push _, fun j v e => by simp at e⟩) fun h' tk acc cc L => ?_
  · have e0 : (its.toArray.size : Int) - 1 - ((0 : Nat) : Int) = (its.toArray.size : Int) - 1 := by omega
    rw [e0]
    exact ⟨_, Heap.get?_push_of_some _ (Heap.get?_push_size _ rfl), rfl, rfl⟩
  obtain ⟨l1, ⟨hb, ⟨_, _, _, hv⟩, l2⟩, l3, l4⟩ := L
  have frS : H1 (s1.heap.push (revObj a ((its.toArray.size : Int) - 1))).objs.size = none := I2.hok.fresh (Nat.le_refl _)
  refine ⟨.ref (s1.heap.push (revObj a ((its.toArray.size : Int) - 1))).objs.size, upd H1 (s1.heap.push (revObj a ((its.toArray.size : Int) - 1))).objs.size (.lst xs.reverse), ?_, rfl, q _ frS⟩
  refine Inv.turnedMany (ch := [s1.heap.objs.size]) I2 (fun c o hc e => l3 c o (Nat.ne_of_lt (Heap.lt_size e)) hc e) (fun c hc => ?_) (fun c u e => ?_) fun c u e => ?_
  · rw [List.mem_singleton.mp hc]
    exact I1.fpOk (Nat.le_refl _) (I1.hok.fresh (Nat.le_refl _))
  · rw [upd_ne (fun z => by rw [z, frS] at e; cases e)]
    exact e
  · by_cases hcp : c = (s1.heap.push (revObj a ((its.toArray.size : Int) - 1))).objs.size
    · subst hcp
      rw [upd_same] at e
      cases e
      refine .inr ⟨Nat.le_refl _, ?_⟩
      refine ⟨by rw [List.length_reverse]; exact hz, acc.toList, cc, RT.vals_rev rv ⟨l1, hv⟩, ?_⟩
      rw [Array.toArray_toList]
      exact l4
    · rw [upd_ne hcp] at e
      exact .inl e
end DL
end
section
set_option maxRecDepth 100000
set_option maxHeartbeats 4000000
namespace DL
open PySem PySem.Spec PyProof.Rows L2
def MulOk (i j : Int) : Prop := IntMulOk i j
def DivOk (i j : Int) : Prop := Builtin.divisionGoesByPylong i j = false
def wAdd (r s : R) (Q : R → Prop) : Prop :=
  match r, s with
  | .d (.int i), .d (.int j) => Q (.d (.int (i + j)))
  | .d (.str x), .d (.str y) => x.length + y.length ≤ sizeLine ∧ Q (.d (.str (x ++ y)))
  | .d (.tuple xs), .d (.tuple ys) => xs.length + ys.length ≤ sizeLine ∧ Q (.d (.tuple (xs ++ ys)))
  | r, s => match look r, look s with
    | .list xs, .list ys => xs.length + ys.length ≤ sizeLine ∧ Q (.l (xs ++ ys) true)
    | _, _ => False
def wSub (r s : R) (Q : R → Prop) : Prop :=
  match r, s with
  | .d (.int i), .d (.int j) => Q (.d (.int (i - j)))
  | _, _ => False
structure wMulS (i j : Int) (p : Prop) : Prop where
  ok : MulOk i j
  p : p
def wMul (r s : R) (Q : R → Prop) : Prop :=
  match r, s with
  | .d (.int i), .d (.int j) => wMulS i j (Q (.d (.int (i * j))))
  | .d (.str x), .d (.int k) => PySem.MulOk x k ∧ Q (.d (.str (Txt.mul x k)))
  | r, .d (.int k) => (match look r with
    | .list xs => -(2 ^ 63) ≤ k ∧ k < 2 ^ 63 ∧ xs.length * k.toNat ≤ sizeLine ∧ Q (.l (List.replicate k.toNat xs).flatten true)
    | _ => False)
  | _, _ => False
def wDiv (r s : R) (Q : R → Prop) : Prop :=
  match r, s with
  | .d (.int i), .d (.int j) => j ≠ 0 ∧ DivOk i j ∧ ∀ q, q = i.fdiv j → (0 < j → q = i / j) → Q (.d (.int q))
  | _, _ => False
def wMod (r s : R) (Q : R → Prop) : Prop :=
  match r, s with
  | .d (.int i), .d (.int j) => j ≠ 0 ∧ ∀ q, q = i.fmod j → (0 < j → q = i % j) → Q (.d (.int q))
  | _, _ => False
def wPow (r s : R) (Q : R → Prop) : Prop :=
  match r, s with
  | .d (.int i), .d (.int j) => CPow i j ∧ Q (.d (.int (i ^ j.toNat)))
  | _, _ => False
def wBin (op : Operator) (r s : R) (Q : R → Prop) : Prop :=
  match op with
  | .Add => wAdd r s Q
  | .Sub => wSub r s Q
  | .Mult => wMul r s Q
  | .FloorDiv => wDiv r s Q
  | .Mod => wMod r s Q
  | .Pow => wPow r s Q
  | _ => False
def wNeg (r : R) (Q : R → Prop) : Prop :=
  match r with
  | .d (.int i) => Q (.d (.int (-i)))
  | _ => False
def wTru (r : R) (Q : Bool → Prop) : Prop :=
  match r with
  | .d (.bool b) => Q b
  | _ => False
def isNone (d : D) : Bool := match d with
  | .none => true
  | _ => false
def Flat (x y : D) : Prop := min x.depth y.depth ≤ 100
structure wEq0 (x y : D) (Q : R → Prop) : Prop where
  flat : Flat x y
  q : Q (.d (.bool (PyData.eqv x y)))
structure wNe0 (x y : D) (Q : R → Prop) : Prop where
  flat : Flat x y
  q : Q (.d (.bool (!PyData.eqv x y)))
def wEqD (x y : D) (Q : R → Prop) : Prop := match x, y with
  | .int i, .int j => Q (.d (.bool (decide (i = j))))
  | .str i, .str j => Q (.d (.bool (decide (i = j))))
  | .bool i, .bool j => Q (.d (.bool (decide (i = j))))
  | x, y => wEq0 x y Q
def wNeD (x y : D) (Q : R → Prop) : Prop := match x, y with
  | .int i, .int j => Q (.d (.bool (!decide (i = j))))
  | .str i, .str j => Q (.d (.bool (!decide (i = j))))
  | .bool i, .bool j => Q (.d (.bool (!decide (i = j))))
  | x, y => wNe0 x y Q
theorem eqv_i (i j : Int) : PyData.eqv (.int i) (.int j) = decide (i = j) := by unfold PyData.eqv; rw [Bool.eq_iff_iff]; simp
theorem eqv_s (i j : Str) : PyData.eqv (.str i) (.str j) = decide (i = j) := by unfold PyData.eqv; rw [Bool.eq_iff_iff]; simp
theorem eqv_b (i j : Bool) : PyData.eqv (.bool i) (.bool j) = decide (i = j) := by unfold PyData.eqv; rw [Bool.eq_iff_iff]; cases i <;> cases j <;> simp
theorem wEqD_ok {x y : D} {Q : R → Prop} (h : wEqD x y Q) : wEq0 x y Q := by
  unfold wEqD at h
  split at h
  · exact ⟨Nat.zero_le _, by rw [eqv_i]; exact h⟩
  · exact ⟨Nat.zero_le _, by rw [eqv_s]; exact h⟩
  · exact ⟨Nat.zero_le _, by rw [eqv_b]; exact h⟩
  · exact h
theorem wNeD_ok {x y : D} {Q : R → Prop} (h : wNeD x y Q) : wNe0 x y Q := by
  unfold wNeD at h
  split at h
  · exact ⟨Nat.zero_le _, by rw [eqv_i]; exact h⟩
  · exact ⟨Nat.zero_le _, by rw [eqv_s]; exact h⟩
  · exact ⟨Nat.zero_le _, by rw [eqv_b]; exact h⟩
  · exact h
def wEq (r s : R) (Q : R → Prop) : Prop := wEqD (look r) (look s) Q
def wNe (r s : R) (Q : R → Prop) : Prop := wNeD (look r) (look s) Q
def wOrd (f : Int → Int → Bool) (g : D → D → Bool) (r s : R) (Q : R → Prop) : Prop :=
  match r, s with
  | .d (.int i), .d (.int j) => Q (.d (.bool (f i j)))
  | .d (.tuple xs), .d (.tuple ys) => PySem.W.alike (.tuple xs) (.tuple ys) = true ∧ Flat (.tuple xs) (.tuple ys) ∧ Q (.d (.bool (g (.tuple xs) (.tuple ys))))
  | _, _ => False
def sIn (x y : Str) : Bool := !(Builtin.Str.occurrences y x 0 y.length 1).isEmpty
def wIn (neg : Bool) (r s : R) (Q : R → Prop) : Prop :=
  match look s with
  | .list ds => min (PyData.depthAll ds) (look r).depth ≤ 100 ∧ Q (.d (.bool (neg != ds.any fun z => PyData.eqv z (look r))))
  | .tuple ds => min (PyData.depthAll ds) (look r).depth ≤ 100 ∧ Q (.d (.bool (neg != ds.any fun z => PyData.eqv z (look r))))
  | .str y => (match look r with
    | .str x => Q (.d (.bool (neg != sIn x y)))
    | _ => False)
  | _ => False
def wCmp (op : CmpOp) (r s : R) (Q : R → Prop) : Prop :=
  match op with
  | .Eq => wEq r s Q
  | .NotEq => wNe r s Q
  | .Lt => wOrd (fun i j => decide (i < j)) (fun x y => PySem.W.dataLt x y) r s Q
  | .LtE => wOrd (fun i j => decide (i ≤ j)) (fun x y => !PySem.W.dataLt y x) r s Q
  | .Gt => wOrd (fun i j => decide (j < i)) (fun x y => PySem.W.dataLt y x) r s Q
  | .GtE => wOrd (fun i j => decide (j ≤ i)) (fun x y => !PySem.W.dataLt x y) r s Q
  | .In => wIn false r s Q
  | .NotIn => wIn true r s Q
  | _ => False
def wIx (r s : R) (Q : R → Prop) : Prop :=
  match look r, s with
  | .list ds, .d (.int i) => (match atI ds i with
    | some d => Q (.d d)
    | none => False)
  | .tuple ds, .d (.int i) => (match atI ds i with
    | some d => Q (.d d)
    | none => False)
  | .str x, .d (.int i) => x.length ≤ sizeLine ∧ (match atI x.cps.toList i with
    | some c => Q (.d (.str ⟨#[c]⟩))
    | none => False)
  | _, _ => False
def cutD (ds : List D) (lo hi : Option Int) : List D := (ds.drop (HT.sIx ds.length 0 lo)).take (HT.sIx ds.length ds.length hi - HT.sIx ds.length 0 lo)
def wSl (r : R) (lo hi : Option Int) (Q : R → Prop) : Prop :=
  match look r with
  | .list ds => Q (.l (cutD ds lo hi) true)
  | .tuple ds => Q (.d (.tuple (cutD ds lo hi)))
  | .str z => z.length ≤ sizeLine ∧ Q (.d (.str (cutS z lo hi)))
  | _ => False
def frzP (r : R) (k : D → Prop) : Prop := match frz r with
  | some x => k x
  | none => False
def wArgs : List R → (List D → Prop) → Prop
  | [], k => k []
  | r :: rs, k => frzP r fun x => wArgs rs fun xs => k (x :: xs)
section
variable {X : Cx} {K : PySem.W.Frag} {F H B : Hp}
def rB (K : PySem.W.Frag) (w : R → R → (R → Prop) → Prop) : R2 := fun x y H Q => ∃ (F B : Hp) (r s : R) (P : R → Prop), Same F H ∧ RV K B F H r x ∧ RV K B F H s y ∧ w r s P ∧
  ∀ t v F' H', P t → Step F H F' H' → Same F' H' → RV K H F' H' t v → Q v H'
def rU1 (K : PySem.W.Frag) (w : R → (R → Prop) → Prop) : V → Hp → VK → Prop := fun x H Q => ∃ (F B : Hp) (r : R) (P : R → Prop), Same F H ∧ RV K B F H r x ∧ w r P ∧
  ∀ t v F' H', P t → Step F H F' H' → Same F' H' → RV K H F' H' t v → Q v H'
theorem rv_list {r : R} {x : V} {ds : List D} (fh : Same F H) (h : RV K B F H r x) (e : look r = .list ds) : ∃ a xs, x = .ref a ∧ Rd H a (.lst xs) ∧ DqAll K F xs ds := by
  cases r with
  | d y =>
    cases e
    cases h with
    | lst h1 h2 => exact ⟨_, _, rfl, Rd.mono fh h1, h2⟩
  | l es fr =>
    cases e
    obtain ⟨a, xs, h1, h2, h3, h4, h5⟩ := h
    exact ⟨a, xs, h1, .inl h2, h3⟩
theorem rv_tupN {r : R} {x : V} {ds : List D} (h : RV K B F H r x) (e : look r = .tuple ds) : ∃ a xs, x = .ref a ∧ SqT K F a xs ∧ (hd1 ds = true → Nd K F a) ∧ DqAll K F xs ds := by
  cases r with
  | d y =>
    cases e
    cases h with
    | tup h1 hn h2 => exact ⟨_, _, rfl, h1, hn, h2⟩
  | l es fr => cases e
theorem rv_tup {r : R} {x : V} {ds : List D} (h : RV K B F H r x) (e : look r = .tuple ds) : ∃ a xs, x = .ref a ∧ SqT K F a xs ∧ DqAll K F xs ds :=
  let ⟨a, xs, h1, h2, _, h3⟩ := rv_tupN h e
  ⟨a, xs, h1, h2, h3⟩
theorem rv_str {r : R} {x : V} {z : Str} (h : RV K B F H r x) (e : look r = .str z) : x = .str z := by
  cases r with
  | d y =>
    cases e
    cases h
    rfl
  | l es fr => cases e
theorem rv_int {x : V} {i : Int} (h : RV K B F H (.d (.int i)) x) : x = .int i := by
  cases (show Dq K F x (.int i) from h)
  rfl
theorem rv_bool {x : V} {i : Bool} (h : RV K B F H (.d (.bool i)) x) : x = .bl i := by
  cases (show Dq K F x (.bool i) from h)
  rfl
theorem Inv.rlist {pins : List (Addr × Obj)} {σ : L2.St} {s : Shared} {a : Addr} {xs : List V} (I : Inv X pins σ H s) (h : Rd H a (.lst xs)) :
    xs.length ≤ sizeLine ∧ ∃ (its : List Value) (n : Nat), Vals xs its ∧ s.heap.get? a = some { cls := .type "list", data := .seq its.toArray n } := by
  obtain ⟨z, its, n, r, e⟩ := h.ok I.hok
  exact ⟨z, its, n, r, e⟩
theorem rv_new {p : Addr} {xs : List V} {ds : List D} (fh : Same F H) (hp : H p = none) (h : DqAll K F xs ds) : RV K H F (upd H p (.lst xs)) (.l ds true) (.ref p) :=
  ⟨p, xs, rfl, upd_same, h, Same.free fh hp, fun _ => hp⟩
theorem op_addD : OpR X (binaryOp .Add) (rB X.K wAdd) := by
  intro pins s σ H x y v u Q I rx ry h
  obtain ⟨F, B, r, t, P, fh, vr, vt, w, post⟩ := h
  unfold wAdd at w
  split at w
  · have e1 := rv_int vr
    have e2 := rv_int vt
    subst e1 e2
    exact op_add pins s σ H _ _ v u Q I rx ry ⟨_, _, rfl, rfl, post _ _ F H w Step.refl fh (Dq.int _)⟩
  · have e1 := rv_str vr rfl
    have e2 := rv_str vt rfl
    subst e1 e2
    exact op_add_str pins s σ H _ _ v u Q I rx ry ⟨_, _, rfl, rfl, w.1, post _ _ F H w.2 Step.refl fh (Dq.str _)⟩
  · rename_i ds es
    obtain ⟨a, xs, e1, h1, hn, h2⟩ := rv_tupN vr rfl
    obtain ⟨b, ys, e2, g1, gn, g2⟩ := rv_tupN vt rfl
    subst e1 e2
    have l1 := dpa_len h2
    have l2 := dpa_len g2
    refine op_catX pins s σ H _ _ v u Q I rx ry ⟨a, b, xs, ys, rfl, rfl, SqT.mono fh h1, SqT.mono fh g1, by omega, fun z => ?_, fun z z2 => ?_, fun z z2 p o ho hp => ?_⟩
    · subst z
      cases h2
      exact post _ _ F H w.2 Step.refl fh (Dq.tup g1 gn g2)
    · subst z2
      cases g2
      refine post _ _ F H w.2 Step.refl fh ?_
      rw [List.append_nil]
      exact Dq.tup h1 hn h2
    · exact post _ _ _ _ w.2 (Step.new fh hp) (same_new fh) (dq_new fh hp ho (dpa_app h2 g2))
  · split at w
    · rename_i ds es e1 e2
      obtain ⟨a, xs, e1, h1, h2⟩ := rv_list fh vr e1
      obtain ⟨b, ys, e2, g1, g2⟩ := rv_list fh vt e2
      subst e1 e2
      have l1 := dpa_len h2
      have l2 := dpa_len g2
      cases rx
      cases ry
      obtain ⟨z, its, n, r, e⟩ := Inv.rlist I h1
      obtain ⟨z2, its2, n2, r2, e2⟩ := Inv.rlist I g1
      have k1 := r.length
      have k2 := r2.length
      refine PySem.P.add_list e e2 ?_ (by rw [List.size_toArray, List.size_toArray]; omega)
      have ea : its.toArray ++ its2.toArray = (its ++ its2).toArray := by simp
      rw [ea]
      refine ⟨.ref _, _, I.lnew (t' := s.toks) (r.append r2) (by rw [List.length_append]; omega), rfl, ?_⟩
      exact post _ _ F _ w.2 (Step.own fh I.fresh) (same_own fh I.fresh) (rv_new fh I.fresh (dpa_app h2 g2))
    · exact w.elim
theorem op_subD : OpR X (binaryOp .Sub) (rB X.K wSub) := by
  intro pins s σ H x y v u Q I rx ry h
  obtain ⟨F, B, r, t, P, fh, vr, vt, w, post⟩ := h
  unfold wSub at w
  split at w
  · have e1 := rv_int vr
    have e2 := rv_int vt
    subst e1 e2
    exact op_sub pins s σ H _ _ v u Q I rx ry ⟨_, _, rfl, rfl, post _ _ F H w Step.refl fh (Dq.int _)⟩
  · exact w.elim
theorem op_mulD : OpR X (binaryOp .Mult) (rB X.K wMul) := by
  intro pins s σ H x y v u Q I rx ry h
  obtain ⟨F, B, r, t, P, fh, vr, vt, w, post⟩ := h
  unfold wMul at w
  split at w
  · have e1 := rv_int vr
    have e2 := rv_int vt
    subst e1 e2
    obtain ⟨t1, rfl⟩ := rx
    obtain ⟨t2, rfl⟩ := ry
    exact mul_int ⟨.int _, H, I.tok _, ⟨_, rfl⟩, post _ _ F H w.2 Step.refl fh (Dq.int _)⟩ w.1
  · have e1 := rv_str vr rfl
    have e2 := rv_int vt
    subst e1 e2
    obtain ⟨t1, rfl⟩ := rx
    obtain ⟨t2, rfl⟩ := ry
    exact SB.mul w.1 fun t' k => ⟨.str _, H, I.tok _, ⟨_, rfl⟩, post _ _ F H w.2 Step.refl fh (Dq.str _)⟩
  · rename_i k hne hne2
    split at w
    · rename_i ds e1
      obtain ⟨a, xs, e1, h1, h2⟩ := rv_list fh vr e1
      have e2 := rv_int vt
      subst e1 e2
      obtain ⟨w1, w2, w3, w4⟩ := w
      have l1 := dpa_len h2
      cases rx
      obtain ⟨t2, rfl⟩ := ry
      obtain ⟨z, its, n, r, e⟩ := Inv.rlist I h1
      have hl := r.length
      have hlen : its.toArray.size * k.toNat ≤ sizeLine := by rw [List.size_toArray, ← hl, l1]; exact w3
      have hcap : ¬ its.toArray.size * k.toNat > (2 ^ 63 - 1) / 8 := by
        have : (sizeLine : Nat) ≤ (2 ^ 63 - 1) / 8 := by decide
        omega
      have hfit : ¬ (!Builtin.List.listFitsIndex k) = true := by
        rw [fitsIndex_both w1 w2]
        exact Bool.false_ne_true
      have hlong : ¬ Builtin.List.listTooLong (its.toArray.size * k.toNat) = true := by
        rw [notLongL hlen]
        exact Bool.false_ne_true
      have hnew : List.foldl (fun x1 x2 => x1 ++ x2) #[] (List.replicate (if its.toArray.isEmpty = true then 0 else k.toNat) its.toArray) = (List.replicate k.toNat its).flatten.toArray := by
        have f0 : ∀ m : Nat, List.foldl (fun x1 x2 => x1 ++ x2) #[] (List.replicate m its.toArray) = (List.replicate m its).flatten.toArray := fun m => by
          have := foldl_rep its m []
          rw [List.nil_append] at this
          exact this
        rw [f0]
        cases its with
        | nil => simp
        | cons a r' => rw [if_neg (by simp)]
      have dr : ∀ m : Nat, DqAll X.K F (List.replicate m xs).flatten (List.replicate m ds).flatten := fun m => by
        induction m with
        | zero => exact .nil
        | succ m ih =>
          rw [List.replicate_succ, List.replicate_succ, List.flatten_cons, List.flatten_cons]
          exact dpa_app h2 ih
      refine wpAny_binaryOp_repeat_ref (T := "list") (U := "int") (by decide) ⟨_, e, rfl⟩ (fun s' => typeIs_int s' k t2) noFill_list_mul PySem.F.fills_int_mul PySem.F.slot_int_rmul repeat_list PySem.F.slot_int_index.lookup
        (call_meets PySem.F.slot_int_rmul (typeIs_int s k t2) PySem.F.entry_int_rmul (PySem.F.args_int_rmul_2 _ _) (int___rmul___int_list k t2 a its.toArray n)
          ⟨e, rfl, ⟨_, e, rfl⟩, call_meets PySem.F.slot_list_mul ⟨_, e, rfl⟩ PySem.F.entry_list_mul (PySem.F.args_list_mul_2 _ _) (AutoListH.list___mul___list_int_3 a its.toArray n k t2 hfit hcap hlong) ⟨e, ?_⟩⟩)
      rw [hnew]
      refine ⟨.ref _, _, I.lnew (t' := s.toks) (r.rep k.toNat) (by rw [PyProof.Rows.lm_len_rep_flat, Nat.mul_comm, l1]; exact w3), rfl, ?_⟩
      exact post _ _ F _ w4 (Step.own fh I.fresh) (same_own fh I.fresh) (rv_new fh I.fresh (dr _))
    · exact w.elim
  · exact w.elim
theorem op_divD : OpR X (binaryOp .FloorDiv) (rB X.K wDiv) := by
  intro pins s σ H x y v u Q I rx ry h
  obtain ⟨F, B, r, t, P, fh, vr, vt, w, post⟩ := h
  unfold wDiv at w
  split at w
  · have e1 := rv_int vr
    have e2 := rv_int vt
    subst e1 e2
    obtain ⟨t1, rfl⟩ := rx
    obtain ⟨t2, rfl⟩ := ry
    exact floordiv_int w.1 ⟨.int _, H, I.tok _, ⟨_, rfl⟩, post _ _ F H (w.2.2 _ rfl fun h => Int.fdiv_eq_ediv_of_nonneg _ (Int.le_of_lt h)) Step.refl fh (Dq.int _)⟩ (.inl w.2.1)
  · exact w.elim
theorem op_modD : OpR X (binaryOp .Mod) (rB X.K wMod) := by
  intro pins s σ H x y v u Q I rx ry h
  obtain ⟨F, B, r, t, P, fh, vr, vt, w, post⟩ := h
  unfold wMod at w
  split at w
  · have e1 := rv_int vr
    have e2 := rv_int vt
    subst e1 e2
    exact op_modN pins s σ H _ _ v u Q I rx ry ⟨_, _, rfl, rfl, w.1, post _ _ F H (w.2 _ rfl fun h => Int.fmod_eq_emod_of_nonneg _ (Int.le_of_lt h)) Step.refl fh (Dq.int _)⟩
  · exact w.elim
theorem op_powD : OpR X (binaryOp .Pow) (rB X.K wPow) := by
  intro pins s σ H x y v u Q I rx ry h
  obtain ⟨F, B, r, t, P, fh, vr, vt, w, post⟩ := h
  unfold wPow at w
  split at w
  · have e1 := rv_int vr
    have e2 := rv_int vt
    subst e1 e2
    exact op_pow pins s σ H _ _ v u Q I rx ry ⟨_, _, rfl, rfl, w.1, post _ _ F H w.2 Step.refl fh (Dq.int _)⟩
  · exact w.elim
theorem op_binD (op : Operator) : OpR X (binaryOp op) (rB X.K (wBin op)) := by
  cases op with
  | Add => exact op_addD
  | Sub => exact op_subD
  | Mult => exact op_mulD
  | FloorDiv => exact op_divD
  | Mod => exact op_modD
  | Pow => exact op_powD
  | _ => intro pins s σ H x y v u Q I rx ry h; obtain ⟨F, B, r, t, P, fh, vr, vt, w, post⟩ := h; exact False.elim w
theorem un_negD : UnR X (unaryOp .USub) (rU1 X.K wNeg) := by
  intro pins s σ H x v Q I rx h
  obtain ⟨F, B, r, P, fh, vr, w, post⟩ := h
  unfold wNeg at w
  split at w
  · have e1 := rv_int vr
    subst e1
    exact un_neg pins s σ H _ v Q I rx ⟨_, rfl, post _ _ F H w Step.refl fh (Dq.int _)⟩
  · exact w.elim
theorem rv_reads {pins : List (Addr × Obj)} {σ : L2.St} {s : Shared} {r : R} {x : V} {v : Value} (I : Inv X pins σ H s) (fh : Same F H) (h : RV X.K B F H r x) (rx : RelV x v) : (∃ as, Reads s.heap v (look r) as) ∧ (look r).plain = true := by
  have q := Dq.dp _ _ (h.look fh)
  exact ⟨Dp.reads I _ x v q.1 rx, q.2⟩
theorem op_ordD {op : CmpOp} {f : Int → Int → Bool} {g : D → D → Bool} (ho : OpR X (compareOp op) (rI0 fun i j => .bl (f i j)))
    (hd : ∀ (s : Shared) (a b : Value) (da db : D) (as bs : List Addr) (Q : Value → Shared → Prop), Reads s.heap a da as → Reads s.heap b db bs → PySem.W.alike da db = true → da ≠ .none → X.A.units + min da.depth db.depth < cLine → Q (.bool (g da db)) s → wpAny (model X.prog X.w) X.A (compareOp op a b) Q X.xe s)
    (hu : X.A.units + 200 < cLine) : OpR X (compareOp op) (rB X.K (wOrd f g)) := by
  intro pins s σ H x y v u Q I rx ry h
  obtain ⟨F, B, r, t, P, fh, vr, vt, w, post⟩ := h
  unfold wOrd at w
  split at w
  · have e1 := rv_int vr
    have e2 := rv_int vt
    subst e1 e2
    exact ho pins s σ H _ _ v u Q I rx ry ⟨_, _, rfl, rfl, post _ _ F H w Step.refl fh (Dq.bl _)⟩
  · obtain ⟨w1, w2, w3⟩ := w
    obtain ⟨⟨as, ra⟩, pa⟩ := rv_reads I fh vr rx
    obtain ⟨⟨bs, rb⟩, pb⟩ := rv_reads I fh vt ry
    unfold Flat at w2
    exact hd s v u _ _ as bs _ ra rb w1 (fun z => nomatch z) (by show X.A.units + min (PyData.depth (.tuple _)) (PyData.depth (.tuple _)) < cLine; omega) ⟨.bl _, H, I, rfl, post _ _ F H w3 Step.refl fh (Dq.bl _)⟩
  · exact w.elim
theorem op_inD' (neg : Bool) (hu : X.A.units + 200 < cLine) : OpR X (compareOp (if neg then .NotIn else .In)) (rB X.K (wIn neg)) := by
  intro pins s σ H x y v u Q I rx ry h
  obtain ⟨F, B, r, t, P, fh, vr, vt, w, post⟩ := h
  obtain ⟨⟨as, ra⟩, pa⟩ := rv_reads I fh vr rx
  obtain ⟨⟨bs, rb⟩, pb⟩ := rv_reads I fh vt ry
  unfold wIn at w
  split at w
  · rename_i ds e
    rw [e] at rb pb
    have pds : PyData.plainAll ds = true := by simpa [PyData.plain] using pb
    have hu2 : X.A.units + 1 + min (PyData.depthAll ds) (look r).depth < cLine := by have := w.1; omega
    have fin : ∀ b, b = (neg != ds.any fun z => PyData.eqv z (look r)) → EP X pins σ Q (.bool b) s := fun b hb => ⟨.bl b, H, I, rfl, post _ _ F H w.2 Step.refl fh (hb ▸ Dq.bl _)⟩
    cases neg with
    | true => exact SeqAt.notIn_list_data rb ra pds pa hu2 (fin _ (by simp))
    | false => exact SeqAt.in_list_data rb ra pds pa hu2 (fin _ (by simp))
  · rename_i ds e
    rw [e] at rb pb
    have pds : PyData.plainAll ds = true := by simpa [PyData.plain] using pb
    have hu2 : X.A.units + 1 + min (PyData.depthAll ds) (look r).depth < cLine := by have := w.1; omega
    have fin : ∀ b, b = (neg != ds.any fun z => PyData.eqv z (look r)) → EP X pins σ Q (.bool b) s := fun b hb => ⟨.bl b, H, I, rfl, post _ _ F H w.2 Step.refl fh (hb ▸ Dq.bl _)⟩
    cases neg with
    | true => exact SeqAt.notIn_tuple_data rb ra pds pa hu2 (fin _ (by simp))
    | false => exact SeqAt.in_tuple_data rb ra pds pa hu2 (fin _ (by simp))
  · rename_i z e
    split at w
    · rename_i z2 e2
      have e3 := rv_str vr e2
      have e4 := rv_str vt e
      subst e3 e4
      cases neg with
      | true => exact op_notIn_str pins s σ H _ _ v u Q I rx ry ⟨_, _, rfl, rfl, post _ _ F H w Step.refl fh (by show Dq _ _ (V.bl _) (.bool (true != sIn _ _)); unfold sIn; rw [Bool.true_bne]; exact Dq.bl _)⟩
      | false => exact op_in_str pins s σ H _ _ v u Q I rx ry ⟨_, _, rfl, rfl, post _ _ F H w Step.refl fh (by show Dq _ _ (V.bl _) (.bool (false != sIn _ _)); unfold sIn; rw [Bool.false_bne]; exact Dq.bl _)⟩
    · exact w.elim
  · exact w.elim
theorem op_cmpD (op : CmpOp) (hu : X.A.units + 200 < cLine) : OpR X (compareOp op) (rB X.K (wCmp op)) := by
  cases op with
  | Eq =>
    intro pins s σ H x y v u Q I rx ry h
    obtain ⟨F, B, r, t, P, fh, vr, vt, w, post⟩ := h
    obtain ⟨⟨as, ra⟩, pa⟩ := rv_reads I fh vr rx
    obtain ⟨⟨bs, rb⟩, pb⟩ := rv_reads I fh vt ry
    have w := wEqD_ok w
    have w1 : min (look r).depth (look t).depth ≤ 100 := w.1
    exact SeqAt.eq_plain ra rb pa pb (by omega) ⟨.bl _, H, I, rfl, post _ _ F H w.2 Step.refl fh (Dq.bl _)⟩
  | NotEq =>
    intro pins s σ H x y v u Q I rx ry h
    obtain ⟨F, B, r, t, P, fh, vr, vt, w, post⟩ := h
    obtain ⟨⟨as, ra⟩, pa⟩ := rv_reads I fh vr rx
    obtain ⟨⟨bs, rb⟩, pb⟩ := rv_reads I fh vt ry
    have w := wNeD_ok w
    have w1 : min (look r).depth (look t).depth ≤ 100 := w.1
    exact SeqAt.ne_plain ra rb pa pb (by omega) ⟨.bl _, H, I, rfl, post _ _ F H w.2 Step.refl fh (Dq.bl _)⟩
  | Lt => exact op_ordD op_lt (fun s a b da db as bs Q ra rb h hn hu q => PySem.W.lt_data ra rb h hn hu q) hu
  | LtE => exact op_ordD op_le (fun s a b da db as bs Q ra rb h hn hu q => PySem.W.le_data ra rb h hn hu q) hu
  | Gt => exact op_ordD op_gt (fun s a b da db as bs Q ra rb h hn hu q => PySem.W.gt_data ra rb h hn hu q) hu
  | GtE => exact op_ordD op_ge (fun s a b da db as bs Q ra rb h hn hu q => PySem.W.ge_data ra rb h hn hu q) hu
  | In => exact op_inD' false hu
  | NotIn => exact op_inD' true hu
  | _ => intro pins s σ H x y v u Q I rx ry h; obtain ⟨F, B, r, t, P, fh, vr, vt, w, post⟩ := h; exact False.elim w
theorem atI_map {ds : List D} {xs : List V} {i : Int} {d : D} (h : DqAll K F xs ds) (e : atI ds i = some d) : ∃ v, atI xs i = some v ∧ Dq K F v d := by
  unfold atI at e ⊢
  rw [dpa_len h]
  cases q : ixN ds.length i with
  | none => rw [q] at e; cases e
  | some j =>
    rw [q] at e
    obtain ⟨v, h1, h2⟩ := dpa_get h e
    exact ⟨v, h1, h2⟩
theorem ix_D : IxR X (rB X.K wIx) := by
  intro value slice pins s σ H x y v u Q I rx ry h hs
  obtain ⟨F, B, r, t, P, fh, vr, vt, w, post⟩ := h
  unfold wIx at w
  split at w
  · rename_i ds i e1
    obtain ⟨a, xs, e1, h1, h2⟩ := rv_list fh vr e1
    have e2 := rv_int vt
    subst e1 e2
    split at w
    · rename_i d e3
      obtain ⟨z, g1, g2⟩ := atI_map h2 e3
      exact ix_list value slice pins s σ H _ _ v u Q I rx ry ⟨a, xs, i, z, rfl, rfl, .inl h1, g1, post _ _ F H w Step.refl fh g2⟩ hs
    · exact w.elim
  · rename_i ds i e1
    obtain ⟨a, xs, e1, h1, h2⟩ := rv_tup vr e1
    have e2 := rv_int vt
    subst e1 e2
    split at w
    · rename_i d e3
      obtain ⟨z, g1, g2⟩ := atI_map h2 e3
      exact ix_tup value slice pins s σ H _ _ v u Q I rx ry ⟨a, xs, i, z, rfl, rfl, SqT.mono fh h1, g1, post _ _ F H w Step.refl fh g2⟩ hs
    · exact w.elim
  · rename_i z i e1
    have e1 := rv_str vr e1
    have e2 := rv_int vt
    subst e1 e2
    obtain ⟨w1, w⟩ := w
    split at w
    · rename_i c e3
      exact ix_str value slice pins s σ H _ _ v u Q I rx ry ⟨z, i, c, rfl, rfl, w1, e3, post _ _ F H w Step.refl fh (Dq.str _)⟩ hs
    · exact w.elim
  · exact w.elim
def rSD (K : PySem.W.Frag) : V → Option Int → Option Int → Hp → VK → Prop := fun x lo hi H Q => ∃ (F B : Hp) (r : R) (P : R → Prop), Same F H ∧ RV K B F H r x ∧ wSl r lo hi P ∧
  ∀ t v F' H', P t → Step F H F' H' → Same F' H' → RV K H F' H' t v → Q v H'
theorem dpa_cut {ds : List D} {xs : List V} (h : DqAll K F xs ds) (lo hi : Option Int) : DqAll K F (cutV xs lo hi) (cutD ds lo hi) := by
  unfold cutV cutD
  rw [dpa_len h]
  exact dpa_take _ (dpa_drop _ h)
theorem cut_all {α : Type} (xs : List α) (lo hi : Option Int) (h : HT.sIx xs.length 0 lo = 0 ∧ HT.sIx xs.length xs.length hi = xs.length) : (xs.drop (HT.sIx xs.length 0 lo)).take (HT.sIx xs.length xs.length hi - HT.sIx xs.length 0 lo) = xs := by
  rw [h.1, h.2]
  simp
theorem sl_D : SlR X (rSD X.K) := by
  intro pins s σ H x v vl vu lo hi sl Q I rx hs pl pu h
  obtain ⟨F, B, r, P, fh, vr, w, post⟩ := h
  unfold wSl at w
  split at w
  · rename_i ds e1
    obtain ⟨a, xs, e1, h1, h2⟩ := rv_list fh vr e1
    subst e1
    exact sl_list pins s σ H _ v vl vu lo hi sl Q I rx hs pl pu ⟨a, xs, rfl, .inl h1, fun p hp => post _ _ F _ w (Step.own fh hp) (same_own fh hp) (rv_new fh hp (dpa_cut h2 lo hi))⟩
  · rename_i ds e1
    obtain ⟨a, xs, e1, h1, hn, h2⟩ := rv_tupN vr e1
    subst e1
    refine sl_tupX pins s σ H _ v vl vu lo hi sl Q I rx hs pl pu ⟨a, xs, rfl, SqT.mono fh h1, fun z => ?_, fun z p o ho hp => ?_⟩
    · refine post _ _ F H w Step.refl fh ?_
      have e : cutD ds lo hi = ds := cut_all ds lo hi (by rw [← dpa_len h2]; exact z)
      rw [e]
      exact Dq.tup h1 hn h2
    · exact post _ _ _ _ w (Step.new fh hp) (same_new fh) (dq_new fh hp ho (dpa_cut h2 lo hi))
  · rename_i z e1
    have e2 := rv_str vr e1
    subst e2
    exact sl_str pins s σ H _ v vl vu lo hi sl Q I rx hs pl pu ⟨z, rfl, w.1, post _ _ F H w.2 Step.refl fh (Dq.str _)⟩
  · exact w.elim
end
end DL
end
section
set_option maxRecDepth 100000
set_option maxHeartbeats 4000000
namespace DL
open PySem PySem.Spec PyProof.Rows L2
def r5 : Nat → Nat
  | 0 => 0
  | n + 1 => 5 * r5 n + 1
theorem r5_pow : ∀ n, 5 ^ n = 4 * r5 n + 1
  | 0 => rfl
  | n + 1 => by rw [Nat.pow_succ, r5_pow n]; show _ = 4 * (5 * r5 n + 1) + 1; omega
theorem r5_add (a : Nat) : ∀ b, r5 (a + b) = r5 a * 5 ^ b + r5 b
  | 0 => by simp [r5]
  | b + 1 => by
    show 5 * r5 (a + b) + 1 = r5 a * 5 ^ (b + 1) + (5 * r5 b + 1)
    rw [r5_add a b, Nat.pow_succ]
    grind
theorem r5_dbl (n : Nat) : r5 (n + n) = 2 * (r5 n * (2 * r5 n + 1)) := by
  rw [r5_add, r5_pow]
  grind
theorem r5_odd : ∀ n, r5 n % 2 = n % 2
  | 0 => rfl
  | n + 1 => by
    have := r5_odd n
    show (5 * r5 n + 1) % 2 = _
    omega
theorem r5_dvd : ∀ (k d : Nat), 2 ^ k ∣ r5 d → 2 ^ k ∣ d
  | 0, d, _ => by simp
  | k + 1, d, h => by
    have h2 : 2 ∣ r5 d := Nat.dvd_trans (by rw [Nat.pow_succ]; exact Nat.dvd_mul_left 2 _) h
    have he : d % 2 = 0 := by
      have := r5_odd d
      omega
    obtain ⟨e, rfl⟩ : ∃ e, d = e + e := ⟨d / 2, by omega⟩
    rw [r5_dbl, Nat.pow_succ, Nat.mul_comm (2 ^ k) 2] at h
    have h3 : 2 ^ k ∣ r5 e * (2 * r5 e + 1) := Nat.dvd_of_mul_dvd_mul_left (by decide) h
    have hc : Nat.Coprime (2 ^ k) (2 * r5 e + 1) := by
      refine Nat.Coprime.pow_left k ?_
      show Nat.gcd 2 (2 * r5 e + 1) = 1
      rw [Nat.gcd_rec, show (2 * r5 e + 1) % 2 = 1 by omega]
      decide
    have h4 := r5_dvd k e (hc.dvd_of_dvd_mul_right h3)
    rw [Nat.pow_succ, show e + e = e * 2 by omega]
    exact Nat.mul_dvd_mul_right h4 2
theorem r5_round : ∀ k, 2 ^ k ∣ r5 (2 ^ k)
  | 0 => by simp
  | k + 1 => by
    have h := r5_round k
    rw [show 2 ^ (k + 1) = 2 ^ k + 2 ^ k by rw [Nat.pow_succ]; omega, r5_dbl, show 2 ^ k + 2 ^ k = 2 * 2 ^ k by omega]
    exact Nat.mul_dvd_mul_left 2 (Nat.dvd_trans h (Nat.dvd_mul_right _ _))
def MG (m : Nat) : Prop := ∃ k, m + 1 = 2 ^ k ∧ m ≤ 8191
theorem MG.odd {m : Nat} (h : MG m) (h1 : 1 ≤ m) : m % 2 = 1 := by
  obtain ⟨k, e, _⟩ := h
  cases k with
  | zero => simp at e; omega
  | succ k => rw [Nat.pow_succ] at e; omega
theorem lcg_r5 (m : Nat) : ∀ n, lcgN m n = r5 n % (m + 1)
  | 0 => by show 0 = 0 % _; simp
  | n + 1 => by
    show (lcgN m n * 5 + 1) % (m + 1) = (5 * r5 n + 1) % (m + 1)
    rw [lcg_r5 m n]
    simp [Nat.add_mod, Nat.mul_mod, Nat.mul_comm]
theorem r5_inj {k a b : Nat} (h : a < b) (hb : b < 2 ^ k) : r5 a % 2 ^ k ≠ r5 b % 2 ^ k := fun e => by
  have e2 : r5 b = r5 (b - a) * 5 ^ a + r5 a := by rw [← r5_add, Nat.sub_add_cancel (Nat.le_of_lt h)]
  have hd : 2 ^ k ∣ r5 (b - a) * 5 ^ a := by
    have : 2 ^ k ∣ r5 b - r5 a := Nat.dvd_of_mod_eq_zero (Nat.sub_mod_eq_zero_of_mod_eq e.symm)
    rw [e2, Nat.add_sub_cancel] at this
    exact this
  have hc : Nat.Coprime (2 ^ k) (5 ^ a) := Nat.Coprime.pow_left k (Nat.Coprime.pow_right a (by decide))
  have h4 := Nat.le_of_dvd (by omega) (r5_dvd k _ (hc.dvd_of_dvd_mul_right hd))
  omega
theorem lcg_onto {m : Nat} (hm : MG m) {j : Nat} (hj : j ≤ m) : ∃ b, b ≤ m ∧ lcgN m b = j := by
  obtain ⟨k, ek, _⟩ := hm
  rcases Classical.em (∃ b, b ≤ m ∧ lcgN m b = j) with c | c
  · exact c
  · exfalso
    have nd : ((List.range (m + 1)).map (lcgN m)).Nodup := by
      rw [List.nodup_iff_pairwise_ne, List.pairwise_map]
      refine List.Pairwise.imp_of_mem (fun {a b} ha hb h e => ?_) List.pairwise_lt_range
      rw [lcg_r5, lcg_r5, ek] at e
      exact r5_inj h (by rw [← ek]; exact List.mem_range.mp hb) e
    have nd2 : (j :: (List.range (m + 1)).map (lcgN m)).Nodup := List.nodup_cons.mpr ⟨fun h => by
      obtain ⟨b, h1, h2⟩ := List.mem_map.mp h
      exact c ⟨b, by have := List.mem_range.mp h1; omega, h2⟩, nd⟩
    have := nat_nodup_len _ (List.range (m + 1)) nd2 fun x hx => by
      rcases List.mem_cons.mp hx with e | h
      · rw [e]; exact List.mem_range.mpr (by omega)
      · obtain ⟨b, h1, h2⟩ := List.mem_map.mp h
        rw [← h2, lcg_r5]
        exact List.mem_range.mpr (Nat.mod_lt _ (Nat.succ_pos _))
    rw [List.length_cons, List.length_map, List.length_range] at this
    omega
theorem lcg_rounds {m : Nat} (hm : MG m) (n : Nat) : lcgN m (m + 1 + n) = lcgN m n := by
  obtain ⟨k, ek, _⟩ := hm
  rw [lcg_r5, lcg_r5, r5_add, ek]
  obtain ⟨q, e⟩ := r5_round k
  rw [e, Nat.mul_assoc, Nat.mul_add_mod]
theorem lcgI_onto {m : Nat} (hm : MG m) {i j : Nat} (hi : i ≤ m) (hj : j ≤ m) : ∃ k, k ≤ m ∧ lcgI m i k = j := by
  obtain ⟨a, ha, rfl⟩ := lcg_onto hm hi
  obtain ⟨b, hb, rfl⟩ := lcg_onto hm hj
  by_cases c : a ≤ b
  · exact ⟨b - a, by omega, by rw [lcgN_add, show a + (b - a) = b by omega]⟩
  · exact ⟨m + 1 + b - a, by omega, by rw [lcgN_add, show a + (m + 1 + b - a) = m + 1 + b by omega, lcg_rounds hm]⟩
theorem run_hits {m : Nat} (hm : MG m) (h : Int) {j : Nat} (hj : j ≤ m) : ∃ n, n ≤ m + 12 ∧ runI m (SetTable.bits h) n = j :=
  let ⟨k, h1, h2⟩ := lcgI_onto hm (runI_le m (SetTable.bits h) 12) hj
  ⟨12 + k, by omega, (runI_tail (bits_lt h) k).trans h2⟩
theorem way_hits {m : Nat} (hm : MG m) (h : Int) {j : Nat} (hj : j ≤ m) : ∃ k, k < 10 * SetTable.turns m ∧ way m h k = j := by
  obtain ⟨n, h1, h2⟩ := run_hits hm h hj
  obtain ⟨k, h3, h4⟩ := run_nth m (SetTable.bits h) n
  refine ⟨k, by unfold SetTable.turns; omega, ?_⟩
  unfold way
  rw [h4]
  exact h2
theorem way_in (m : Nat) (h : Int) (k : Nat) : way m h k ≤ m := by
  have hi : SetTable.bits h % (m + 1) ≤ m := Nat.le_of_lt_succ (Nat.mod_lt (SetTable.bits h) (Nat.succ_pos m))
  have := runEnd_bd hi
  have q := nth_in (m := m) k (runAt m (SetTable.bits h % (m + 1)) (SetTable.bits h)) (by
    show SetTable.bits h % (m + 1) + (SetTable.runEnd m (SetTable.bits h % (m + 1)) - SetTable.bits h % (m + 1)) ≤ m
    omega)
  unfold way
  omega
def OnWay (m : Nat) (s : Nat → Prop) (h : Int) (j : Nat) : Prop := ∃ k, way m h k = j ∧ ∀ i, i < k → s (way m h i)
structure TabG (t : SetTable) (hs : List Int) : Prop where
  up : Ris t.place.toList
  nod : t.dummies = #[]
  len : t.place.size = hs.length
  msk : MG t.mask
  big : 7 ≤ t.mask
  low : ∀ x ∈ t.place.toList, x ≤ t.mask
  fnd : ∀ (i : Nat) (h : Int) (j : Nat), hs[i]? = some h → t.place.toList[i]? = some j → OnWay t.mask (· ∈ t.place.toList) h j
theorem TabG.end_ {t : SetTable} {hs : List Int} (T : TabG t hs) (hl : hs.length ≤ t.mask) (h : Int) :
    ∃ K, K < 10 * SetTable.turns t.mask ∧ way t.mask h K ∉ t.place.toList ∧ ∀ k, k < K → way t.mask h k ∈ t.place.toList := by
  obtain ⟨j, hj, hn⟩ := st_missing t.place.toList (t.mask + 1) (by rw [Array.length_toList, T.len]; omega)
  obtain ⟨k, hk, e⟩ := way_hits T.msk h (j := j) (by omega)
  obtain ⟨K, h1, h2, h3⟩ := st_least (p := fun k => way t.mask h k ∉ t.place.toList) k (by rw [e]; exact hn)
  exact ⟨K, by omega, h2, fun i hi => Classical.byContradiction (h3 i hi)⟩
theorem TabG.pre {t : SetTable} {hs : List Int} (T : TabG t hs) {h : Int} {K i j : Nat} (hK : way t.mask h K ∉ t.place.toList) (hi : hs[i]? = some h) (hj : t.place.toList[i]? = some j) : ∃ k, k < K ∧ way t.mask h k = j := by
  obtain ⟨k, e, z⟩ := T.fnd i h j hi hj
  refine ⟨k, Nat.lt_of_not_le fun c => ?_, e⟩
  rcases Nat.eq_or_lt_of_le c with c | c
  · rw [c, e] at hK; exact hK (List.mem_of_getElem? hj)
  · exact hK (z K c)
end DL
end
section
set_option maxRecDepth 100000
set_option maxHeartbeats 4000000
namespace DL
open PySem PySem.Spec PyProof.Rows L2
theorem TabG.put {t : SetTable} {hs : List Int} (T : TabG t hs) {h : Int} {K p : Nat} (hK : way t.mask h K ∉ t.place.toList) (hb : ∀ k, k < K → way t.mask h k ∈ t.place.toList) (hp : SetTable.below t.place (way t.mask h K) = p) :
    p ≤ hs.length ∧ TabG (t.put (way t.mask h K)).1 (hs.take p ++ h :: hs.drop p) ∧ (t.put (way t.mask h K)).1.fill = hs.length + 1 := by
  obtain ⟨j, hj⟩ : ∃ j, j = way t.mask h K := ⟨_, rfl⟩
  rw [← hj] at hK hp ⊢
  have p1 : p ≤ t.place.size := by rw [← hp]; exact (below_cut T.up j).1
  have p2 : p ≤ hs.length := by rw [← T.len]; exact p1
  have p3 : p ≤ t.place.toList.length := by rw [Array.length_toList]; exact p1
  have fresh : t.place[SetTable.below t.place j]? ≠ some j := fun e => hK (List.mem_of_getElem? (by rw [Array.getElem?_toList]; exact e))
  have pl := put_place t j
  rw [hp] at pl
  have sub : ∀ x, x ∈ t.place.toList → x ∈ (t.put j).1.place.toList := fun x hx => by rw [pl]; exact mem_ins.mpr (.inr hx)
  have sz : (t.put j).1.place.size = hs.length + 1 := by rw [← Array.length_toList, pl, len_ins _ p3, Array.length_toList, T.len]
  have dm := put_dm T.nod j
  refine ⟨p2, { up := ris_insert T.up fresh, nod := dm, len := by rw [len_ins _ p2, sz], msk := T.msk, big := T.big, low := fun x hx => ?_, fnd := fun i h' j' e1 e2 => ?_ }, ?_⟩
  · rw [pl] at hx
    rcases mem_ins.mp hx with rfl | hx
    · rw [hj]; exact way_in _ _ _
    · exact T.low x hx
  · rw [tins_get hs p2] at e1
    rw [pl, tins_get _ p3] at e2
    have old : ∀ q, hs[q]? = some h' → t.place.toList[q]? = some j' → OnWay t.mask (· ∈ (t.put j).1.place.toList) h' j' := fun q a b =>
      let ⟨k, e, z⟩ := T.fnd q h' j' a b
      ⟨k, e, fun i hi => sub _ (z i hi)⟩
    rcases Nat.lt_trichotomy i p with c | c | c
    · rw [if_pos c] at e1 e2
      exact old i e1 e2
    · rw [if_neg (by omega), if_pos c] at e1 e2
      cases e1
      cases e2
      exact ⟨K, hj.symm, fun k hk => sub _ (hb k hk)⟩
    · rw [if_neg (by omega), if_neg (by omega)] at e1 e2
      exact old (i - 1) e1 e2
  · show (t.put j).1.place.size + (t.put j).1.dummies.size = _
    rw [dm, sz]
    rfl
theorem free_at {m : Nat} (hm : MG m) (ow : Array (Option Nat)) (h : Int) {j : Nat} (hj : j ≤ m) (hf : oAt ow j = none) :
    ∃ K, SetTable.layClean.free m ow (SetTable.turns m) (SetTable.bits h % (m + 1)) (SetTable.bits h) = some (way m h K) ∧ oAt ow (way m h K) = none ∧ ∀ k, k < K → oAt ow (way m h k) ≠ none := by
  obtain ⟨n, hn, e⟩ := run_hits hm h hj
  have at_ : way m h (off m (SetTable.bits h % (m + 1)) (SetTable.bits h) n) = j := by
    unfold way
    rw [nth_off, itL_run]
    exact e
  obtain ⟨K, k1, k2, k3⟩ := st_least (p := fun k => oAt ow (way m h k) = none) _ (by rw [at_]; exact hf)
  refine ⟨K, free_spec m ow _ n _ _ K (by unfold SetTable.turns; omega) k1 (fun k hk => ?_) (by rw [show oAt ow (nth m (runAt m (SetTable.bits h % (m + 1)) (SetTable.bits h)) K).j = none from k2]; rfl), k2, k3⟩
  exact Bool.eq_false_iff.mpr fun z => k3 k hk (Option.isNone_iff_eq_none.mp z)
theorem own_next {m : Nat} (hm : MG m) {done : List Int} {ow : Array (Option Nat)} (O : Own m done ow) (hl : done.length ≤ m) (h : Int) :
    ∃ j, SetTable.layClean.free m ow (SetTable.turns m) (SetTable.bits h % (m + 1)) (SetTable.bits h) = some j ∧ Own m (done ++ [h]) (ow.setIfInBounds j (some done.length)) := by
  obtain ⟨ps, len, cov⟩ := O.ps
  obtain ⟨f, f1, f2⟩ := st_missing ps (m + 1) (by omega)
  obtain ⟨K, r, free, taken⟩ := free_at hm ow h (j := f) (by omega) (Classical.byContradiction fun z => f2 (cov f (by omega) z))
  have wm := way_in m h K
  have me := oAt_set_self (owner := ow) (some done.length) (j := way m h K) (by rw [O.sz]; omega)
  have others : ∀ {i}, i ≠ way m h K → oAt (ow.setIfInBounds (way m h K) (some done.length)) i = oAt ow i := fun c => oAt_set_ne _ c
  have stay : ∀ i, oAt ow i ≠ none → oAt (ow.setIfInBounds (way m h K) (some done.length)) i ≠ none := fun i z => by
    by_cases c : i = way m h K
    · rw [c, me]; simp
    · rw [others c]; exact z
  refine ⟨_, r, { sz := by rw [Array.size_setIfInBounds, O.sz], at_ := fun j k hj e => ?_, all := fun k hk => ?_, ps := ⟨way m h K :: ps, by simp [len], fun j hj z => ?_⟩ }⟩
  · by_cases c : j = way m h K
    · rw [c, me] at e
      cases e
      exact ⟨h, K, by simp, c.symm, fun i hi => stay _ (taken i hi)⟩
    · rw [others c] at e
      obtain ⟨h', K', a, b, d⟩ := O.at_ j k hj e
      exact ⟨h', K', by rw [List.getElem?_append_left (List.getElem?_eq_some_iff.mp a).1]; exact a, b, fun i hi => stay _ (d i hi)⟩
  · by_cases c : k = done.length
    · exact ⟨_, wm, by rw [me, c]⟩
    · obtain ⟨j, a, b⟩ := O.all k (by simp at hk; omega)
      exact ⟨j, a, by rw [others (fun z => by rw [z, free] at b; cases b)]; exact b⟩
  · by_cases c : j = way m h K
    · rw [c]; exact List.mem_cons_self
    · rw [others c] at z
      exact List.mem_cons_of_mem _ (cov j hj z)
theorem lay_all {m : Nat} (hm : MG m) : ∀ (more done : List Int) (ow : Array (Option Nat)), Own m done ow → done.length + more.length ≤ m →
    ∃ ow', more.foldl (stepF m) (some (ow, done.length)) = some (ow', (done ++ more).length) ∧ Own m (done ++ more) ow'
  | [], done, ow, O, _ => ⟨ow, by simp, by simpa using O⟩
  | h :: more, done, ow, O, hl => by
    simp only [List.length_cons] at hl
    obtain ⟨j, e, O2⟩ := own_next hm O (by omega) h
    obtain ⟨ow', f, O3⟩ := lay_all hm more (done ++ [h]) _ O2 (by simp; omega)
    refine ⟨ow', ?_, by simpa using O3⟩
    rw [List.foldl_cons, stepF_some e]
    simpa using f
theorem laid_ok {m : Nat} (hm : MG m) {hs : Array Int} (hn : hs.size ≤ m) : ∃ ow, SetTable.layClean m hs = some ow ∧ Own m hs.toList ow := by
  obtain ⟨ow, f, O⟩ := lay_all hm hs.toList [] _ (Own.init m) (by simpa using hn)
  refine ⟨ow, ?_, by simpa using O⟩
  rw [layClean_eq]
  simp only [List.length_nil] at f
  rw [f]
  rfl
theorem anew_ok (t : SetTable) {hs : Array Int} {wanted M : Nat} (hw : SetTable.sizeAbove wanted - 1 = M) (hM : MG M) (h7 : 7 ≤ M) (hn : hs.size ≤ M) :
    ∃ t' order, t.relaid hs wanted = some (t', order) ∧ order.toList.Perm (List.range hs.size) ∧ TabG t' (order.toList.map fun i => hs.getD i 0) ∧ t'.mask = M ∧ t'.led = t.led ∧ t'.plain = t.plain := by
  obtain ⟨ow, e, O⟩ := laid_ok hM hn
  refine ⟨tabOf t M ow, ((liveOf M ow).map (·.2)).toArray, by rw [relaid_eq, hw, e]; rfl, ?_, ?_, rfl, rfl, rfl⟩
  all_goals
    have rs := ris_live (fun j => ow.getD j none) (List.range (M + 1)) (show Ris _ from List.pairwise_lt_range)
    have up : Ris ((liveOf M ow).map (·.1)) := rs.1
    have low : ∀ x ∈ (liveOf M ow).map (·.1), x ∈ List.range (M + 1) := rs.2
  · have have_ : ∀ k, k < hs.size → k ∈ (liveOf M ow).map (·.2) := fun k hk => by
      obtain ⟨j, b1, b2⟩ := O.all k (by simpa using hk)
      exact List.mem_map.mpr ⟨(j, k), (mem_live O.sz).mpr ⟨b1, b2⟩, rfl⟩
    refine perm_range hs.size _ (Nat.le_antisymm ?_ ?_) have_
    · obtain ⟨ps, l1, l2⟩ := O.ps
      have nd : ((liveOf M ow).map (·.1)).Nodup := List.Pairwise.imp (fun h => Nat.ne_of_lt h) up
      have := nat_nodup_len ((liveOf M ow).map (·.1)) ps nd fun x hx => by
        obtain ⟨⟨y, k⟩, hq, rfl⟩ := List.mem_map.mp hx
        obtain ⟨b1, b2⟩ := (mem_live O.sz).mp hq
        exact l2 y b1 (by rw [b2]; simp)
      rw [l1] at this
      simpa using this
    · have := nat_nodup_len (List.range hs.size) ((liveOf M ow).map (·.2)) List.nodup_range fun k hk => have_ k (List.mem_range.mp hk)
      simpa using this
  · refine { up := up, nod := rfl, len := by simp [tabOf], msk := hM, big := h7, low := fun x hx => by have := List.mem_range.mp (low x hx); show x ≤ M; omega, fnd := fun i h j e1 e2 => ?_ }
    have e1 : (((liveOf M ow).map (·.2)).map fun i => hs.getD i 0)[i]? = some h := e1
    have e2 : ((liveOf M ow).map (·.1))[i]? = some j := e2
    rw [List.map_map, List.getElem?_map] at e1
    rw [List.getElem?_map] at e2
    obtain ⟨⟨j', k⟩, q, rfl⟩ := Option.map_eq_some_iff.mp e2
    rw [q] at e1
    cases e1
    obtain ⟨b1, b2⟩ := (mem_live O.sz).mp (List.mem_of_getElem? q)
    obtain ⟨h0, K, a1, a2, a3⟩ := O.at_ j' k b1 b2
    have e0 : hs.getD k 0 = h0 := by rw [Array.getD_eq_getD_getElem?, ← Array.getElem?_toList, a1]; rfl
    show OnWay M _ (hs.getD k 0) j'
    rw [e0]
    refine ⟨K, a2, fun i hi => ?_⟩
    show way M h0 i ∈ (liveOf M ow).map (·.1)
    cases z : oAt ow (way M h0 i) with
    | none => exact absurd z (a3 i hi)
    | some k2 => exact List.mem_map.mpr ⟨(_, k2), (mem_live O.sz).mpr ⟨way_in _ _ _, z⟩, rfl⟩
end DL
end
section
set_option maxRecDepth 100000
set_option maxHeartbeats 4000000
namespace DL
open PySem PySem.Spec PyProof.Rows L2
structure SG (P : Program) (w : World) (h : Heap) (a : Addr) (L : List (Addr × List Int)) (es : Array (Int × Value)) (ep : Nat) (t : SetTable) : Prop where
  ob : ∃ o, h.get? a = some o ∧ o.ExactSet ∧ o.data = .set es ep t
  rows : es.toList = rowsOf P w L
  tab : TabG t (L.map fun p => thash P w p.2)
  nd : (L.map (·.2)).Nodup
  tup : ∀ p ∈ L, IsT P w h p.2 p.1
  plain : t.plain = true
  led : w.params.followText "set-order" = true ∨ t.led = true
  room : L.length * 5 < t.mask * 3
section
variable {P : Program} {w : World} {A : Around} {E : Value → Shared → Prop} {s : Shared} {h : Heap} {a : Addr} {L : List (Addr × List Int)} {es : Array (Int × Value)} {ep : Nat} {t : SetTable}
theorem rows_len (r : es.toList = rowsOf P w L) : es.size = L.length := by
  have := congrArg List.length r
  simpa [rowsOf] using this
theorem rows_at (r : es.toList = rowsOf P w L) {i : Nat} {p : Addr × List Int} (e : L[i]? = some p) : es[i]? = some (thash P w p.2, Value.ref p.1) := by
  rw [← Array.getElem?_toList, r]
  simp [rowsOf, e]
theorem fits_of (sz : t.place.size = es.size) (nd : t.dummies = #[]) (l : es.size ≤ t.mask) : t.fits es.size = true := by
  unfold SetTable.fits SetTable.fill
  rw [nd, sz]
  simpa using l
theorem SG.fits (R : SG P w h a L es ep t) : t.fits es.size = true := by
  have h1 := R.tab.len
  have h2 := rows_len R.rows
  have h3 := R.room
  rw [List.length_map] at h1
  exact fits_of (by omega) R.tab.nod (by omega)
theorem SG.steady (R : SG P w h a L es ep t) : ¬ t.gaveWay = true := by
  unfold SetTable.gaveWay
  rw [R.tab.msk.odd (Nat.le_trans (by decide) R.tab.big)]
  decide
theorem nth_dummy (m : Nat) : ∀ (n : Nat) (p : SetTable.Probe), p.dummy = none → (nth m p n).dummy = none
  | 0, _, e => e
  | n + 1, p, e => nth_dummy m n _ (by unfold adv; split <;> exact e)
theorem seek (R : SG P w s.heap a L es ep t) {x : Addr} {k : List Int} (hx : IsT P w s.heap k x) (hu : A.units < cLine) {K : Nat} (bound : K < 10 * SetTable.turns t.mask)
    (stop : way t.mask (thash P w k) K ∉ t.place.toList) (full : ∀ c, c < K → way t.mask (thash P w k) c ∈ t.place.toList) {Q : SetFound → Shared → Prop}
    (yes : k ∈ L.map (·.2) → Q (.there none) s) (no : k ∉ L.map (·.2) → Q (.free (way t.mask (thash P w k) K) false) s) (f : Nat) :
    ∀ (c : Nat) (from_ : Option SetTable.Probe), from_.getD (t.probeStart (thash P w k)) = nth t.mask (t.probeStart (thash P w k)) c → c ≤ K → K < c + f →
      (∀ (i : Nat) p, L[i]? = some p → p.2 = k → ∃ c', c ≤ c' ∧ c' < K ∧ t.place.toList[i]? = some (way t.mask (thash P w k) c')) →
      wpAny (model P w) A (setSearchFrom a (.ref x) (thash P w k) true f from_) Q E s := by
  obtain ⟨o, ho, hex, hd⟩ := R.ob
  have start : ∀ c, (nth t.mask (t.probeStart (thash P w k)) c).j = way t.mask (thash P w k) c := fun c => rfl
  induction f with
  | zero => intro c _ _ h1 h2 _; omega
  | succ f ih =>
    intro c from_ at_ h1 h2 same
    have jump : ∀ q, (nth t.mask (nth t.mask (t.probeStart (thash P w k)) c) q).j = way t.mask (thash P w k) (c + q) := fun q => by rw [← nth_add]; rfl
    have eqHash : ∀ (i : Nat) p, L[i]? = some p → (es[i]?.map (·.1)).getD 0 = thash P w p.2 := fun i p e => by rw [rows_at R.rows e]; rfl
    rw [setSearchFrom_succ]
    refine wpAny_bind (wpAny_setState_of ho hd R.fits ?_)
    dsimp only
    refine wp_if_neg R.steady ?_
    try refine wpAny_bind (wpAny_pure ?_)
    rcases go_spec t R.tab.up R.tab.nod (fun i => (es[i]?.map (·.1)).getD 0) (thash P w k) (10 * SetTable.turns t.mask) (K - c) (nth t.mask (t.probeStart (thash P w k)) c) (nth_dummy _ c _ rfl) (by omega)
      (fun q hq => by rw [jump]; exact full _ (by omega)) (by rw [jump, show c + (K - c) = K by omega]; exact stop) with ⟨q, i, hq, hi, hh, before, pr⟩ | ⟨before, pr⟩
    · -- one of the same hash
      rw [jump] at hi
      have look : t.probe (fun i => (es[i]?.map (·.1)).getD 0) (thash P w k) (from_.getD (t.probeStart (thash P w k))) = some (.candidate (way t.mask (thash P w k) (c + q)) i (nth t.mask (t.probeStart (thash P w k)) (c + q + 1))) := by
        rw [at_, ← jump, show c + q + 1 = c + (q + 1) by omega, nth_add]
        exact pr
      rw [look]
      dsimp only
      have hil : i < L.length := by
        have z := (List.getElem?_eq_some_iff.mp hi).1
        have z2 := R.tab.len
        rw [Array.length_toList, z2, List.length_map] at z
        exact z
      obtain ⟨p, hp⟩ : ∃ p, L[i]? = some p := ⟨_, List.getElem?_eq_getElem hil⟩
      have pin : p ∈ L := List.mem_of_getElem? hp
      have live := slot_live R.tab.up hi
      have cont : wpAny (model P w) A (searchRest a (.ref x) (thash P w k) true f es t (way t.mask (thash P w k) (c + q)) i (nth t.mask (t.probeStart (thash P w k)) (c + q + 1))) Q E s := by
        unfold searchRest
        rw [rows_at R.rows hp]
        dsimp only
        refine wpAny_bind (wpAny_holding (wpAny_eqBool_tuple hu (R.tup p pin) hx ?_))
        refine wpAny_bind (wpAny_setState_of ho hd R.fits ?_)
        dsimp only
        by_cases hk : p.2 = k
        · exact wp_if_pos (by simp [hk]) (wpAny_pure (yes (List.mem_map.mpr ⟨p, pin, hk⟩)))
        · refine wp_if_neg (by simp [hk]) ?_
          try refine wpAny_bind (wpAny_pure ?_)
          rw [sameMem]
          dsimp only
          simp only [if_true, live, rows_at R.rows hp]
          refine wpAny_bind (wpAny_isSame_ref_self (wpAny_bind (wpAny_pure ?_)))
          simp only [if_true]
          refine wp_if_neg (by simp [hk]) (ih (c + q + 1) _ rfl (by omega) (by omega) fun i0 p0 e0 k0 => ?_)
          obtain ⟨c', a1, a2, a3⟩ := same i0 p0 e0 k0
          refine ⟨c', ?_, a2, a3⟩
          have n1 : ¬ c' < c + q := fun z => before (c' - c) i0 (by omega) (by rw [jump, show c + (c' - c) = c' by omega]; exact a3) ((eqHash i0 p0 e0).trans (by rw [k0]))
          have n2 : c' ≠ c + q := fun z => by
            rw [z] at a3
            have l2 := slot_live R.tab.up a3
            rw [live] at l2
            cases l2
            rw [hp] at e0
            cases e0
            exact hk k0
          omega
      by_cases hl : t.led = true
      · refine wp_if_neg (by simp [hl]) ?_
        try refine wpAny_bind (wpAny_pure ?_)
        exact cont
      · refine wp_if_pos (by simp [hl]) (wpAny_bind (seen_tup hx (fun y hy => ?_) ?_))
        · obtain ⟨e, he, rfl⟩ := List.mem_map.mp hy
          have he2 : e ∈ es.toList := by
            have : e ∈ es ∧ e.1 = thash P w k := by simpa using he
            simpa using this.1
          rw [R.rows] at he2
          obtain ⟨p2, hp2, rfl⟩ := List.mem_map.mp he2
          exact ⟨p2.2, p2.1, rfl, R.tup p2 hp2⟩
        · refine wp_if_neg (by decide) ?_
          try refine wpAny_bind (wpAny_pure ?_)
          exact cont
    · -- none is there
      have look : t.probe (fun i => (es[i]?.map (·.1)).getD 0) (thash P w k) (from_.getD (t.probeStart (thash P w k))) = some (.empty (way t.mask (thash P w k) K) none) := by
        have e2 : way t.mask (thash P w k) K = (nth t.mask (nth t.mask (t.probeStart (thash P w k)) c) (K - c)).j := by rw [jump, show c + (K - c) = K by omega]
        rw [at_, e2]
        exact pr
      rw [look]
      dsimp only
      refine wpAny_pure (no fun z => ?_)
      obtain ⟨p0, z1, z2⟩ := List.mem_map.mp z
      obtain ⟨i0, z3, z4⟩ := List.getElem_of_mem z1
      have e0 : L[i0]? = some p0 := by rw [List.getElem?_eq_getElem z3, z4]
      obtain ⟨c', a1, a2, a3⟩ := same i0 p0 e0 z2
      exact before (c' - c) i0 (by omega) (by rw [jump, show c + (c' - c) = c' by omega]; exact a3) ((eqHash i0 p0 e0).trans (by rw [z2]))
theorem search_ (R : SG P w s.heap a L es ep t) {x : Addr} {k : List Int} (hx : IsT P w s.heap k x) (hu : A.units < cLine) {Q : SetFound → Shared → Prop} (yes : k ∈ L.map (·.2) → Q (.there none) s)
    (no : ∀ K, k ∉ L.map (·.2) → way t.mask (thash P w k) K ∉ t.place.toList → (∀ c, c < K → way t.mask (thash P w k) c ∈ t.place.toList) → Q (.free (way t.mask (thash P w k) K) false) s) :
    wpAny (model P w) A (setSearch a (.ref x) (thash P w k) true) Q E s := by
  have room := R.room
  obtain ⟨K, b, st, fl⟩ := R.tab.end_ (by rw [List.length_map]; omega) (thash P w k)
  have : K < 100000 := by
    obtain ⟨_, _, z⟩ := R.tab.msk
    unfold SetTable.turns at b
    omega
  refine seek R hx hu b st fl yes (fun n => no K n st fl) 100000 0 none rfl (Nat.zero_le _) (by omega) fun i p hp hk => ?_
  have il : i < t.place.toList.length := by
    have z := (List.getElem?_eq_some_iff.mp hp).1
    rw [Array.length_toList, R.tab.len, List.length_map]
    exact z
  have hj := List.getElem?_eq_getElem il
  obtain ⟨c, hc, e⟩ := R.tab.pre st (h := thash P w k) (i := i) (by rw [List.getElem?_map, hp, ← hk]; rfl) hj
  exact ⟨c, Nat.zero_le _, hc, by rw [hj, e]⟩
end
end DL
end
section
set_option maxRecDepth 100000
set_option maxHeartbeats 4000000
namespace DL
open PySem PySem.Spec PyProof.Rows L2
theorem above_go : ∀ (f c n : Nat), n < c * 2 ^ f → ∃ j, SetTable.sizeAbove.go n f c = c * 2 ^ j ∧ n < c * 2 ^ j ∧ (c * 2 ^ j = c ∨ c * 2 ^ j ≤ 2 * n)
  | 0, c, n, h => ⟨0, by simp [SetTable.sizeAbove.go], by simpa using h, .inl (by simp)⟩
  | f + 1, c, n, h => by
    unfold SetTable.sizeAbove.go
    by_cases z : c ≤ n
    · rw [if_pos z]
      obtain ⟨j, a, b, d⟩ := above_go f (c * 2) n (by rw [Nat.pow_succ] at h; rw [Nat.mul_assoc, Nat.mul_comm 2]; exact h)
      have e : c * 2 * 2 ^ j = c * 2 ^ (j + 1) := by rw [Nat.pow_succ, Nat.mul_assoc, Nat.mul_comm 2]
      rw [e] at a b d
      exact ⟨j + 1, a, b, .inr (d.elim (fun q => by omega) id)⟩
    · rw [if_neg z]
      exact ⟨0, by simp, by simp; omega, .inl (by simp)⟩
theorem above_ok {n : Nat} (h : n ≤ 8188) : ∃ M, SetTable.sizeAbove n - 1 = M ∧ MG M ∧ 7 ≤ M ∧ n ≤ M ∧ SetTable.sizeAbove n ≤ 8192 := by
  obtain ⟨j, a, b, d⟩ := above_go 64 8 n (Nat.lt_of_le_of_lt h (by decide))
  have a : SetTable.sizeAbove n = 8 * 2 ^ j := a
  have e : 8 * 2 ^ j = 2 ^ (3 + j) := by rw [Nat.pow_add]
  have p : 1 ≤ 2 ^ j := Nat.one_le_two_pow
  have u : 8 * 2 ^ j ≤ 8192 := by
    by_cases z : j ≤ 10
    · have := Nat.pow_le_pow_right (show 0 < 2 by decide) z
      omega
    · have := Nat.pow_le_pow_right (show 0 < 2 by decide) (show 11 ≤ j by omega)
      omega
  exact ⟨8 * 2 ^ j - 1, by rw [a], ⟨3 + j, by rw [← e]; omega, by omega⟩, by omega, by omega, by rw [a]; exact u⟩
section
variable {P : Program} {w : World} {A : Around} {E : Value → Shared → Prop} {s : Shared} {a : Addr} {L : List (Addr × List Int)} {es : Array (Int × Value)} {ep : Nat} {t : SetTable}
theorem larger {o : Obj} (ho : s.heap.get? a = some o) (hex : o.ExactSet) (hd : o.data = .set es ep t) (rows : es.toList = rowsOf P w L) (sz : t.place.size = es.size) (nod : t.dummies = #[]) (fl : es.size ≤ t.mask) (nd : (L.map (·.2)).Nodup)
    (tup : ∀ p ∈ L, IsT P w s.heap p.2 p.1) (pl : t.plain = true) (ld : w.params.followText "set-order" = true ∨ t.led = true) {n : Nat} (hn : n ≤ 8188) (hl : L.length * 4 ≤ n) {Q : Unit → Shared → Prop}
    (hQ : ∀ h' L' es' ep' t', Heap.SameBut a s.heap h' → SG P w h' a L' es' ep' t' → L'.Perm L → Q () { s with heap := h' }) : wpAny (model P w) A (setRelay a n) Q E s := by
  obtain ⟨M, m1, m2, m3, m4, m5⟩ := above_ok hn
  have len := rows_len rows
  obtain ⟨t', order, r, pm, T, tm, tl, tp⟩ := anew_ok t (hs := es.map (·.1)) m1 m2 m3 (by rw [Array.size_map]; omega)
  rw [Array.size_map, len] at pm
  obtain ⟨L2, r1, r2, r3⟩ := order_rows L es order rows pm
  rw [← r3] at T
  have len2 : (order.filterMap (es[·]?)).size = es.size := by
    have := rows_len r1
    rw [this, r2.length_eq, len]
  rw [setRelay_eq]
  refine wpAny_bind (wpAny_setState_of ho hd (fits_of sz nod fl) ?_)
  dsimp only
  refine wp_if_neg (by rw [sizeLine_eq]; omega) ?_
  try refine wpAny_bind (wpAny_pure ?_)
  rw [r]
  dsimp only
  refine wpAny_bind (wp_if_neg (by rw [len2]; simp) ?_)
  try refine wpAny_bind (wpAny_pure ?_)
  refine wpAny_pure ?_
  dsimp only
  refine wpAny_storeSet_of ho hd ?_ (by rw [len2, len, sizeLine_eq]; omega)
  have sb : Heap.SameBut a s.heap (s.heap.update a (Obj.putSet (order.filterMap (es[·]?)) t')) := Heap.SameBut.update ..
  refine hQ _ L2 _ (ep + 1) t' sb { ob := ⟨_, store_at ho hd, ⟨hex.1, hex.2.1, hex.2.2⟩, rfl⟩, rows := r1, tab := T, nd := (r2.map (·.2)).nodup_iff.mpr nd, tup := fun p hp => isT_same (tup p (r2.mem_iff.mp hp)) ho hd sb, plain := by rw [tp]; exact pl, led := by rw [tl]; exact ld, room := ?_ } r2
  rw [r2.length_eq, tm]
  omega
theorem add_more (R : SG P w s.heap a L es ep t) {x : Addr} {k : List Int} (hx : IsT P w s.heap k x) (hu : A.units < cLine) (few : L.length + 1 ≤ 2047) {Q : Bool → Shared → Prop}
    (hQ : ∀ b h' L' es' ep' t', Heap.SameBut a s.heap h' → SG P w h' a L' es' ep' t' → (k ∈ L.map (·.2) → L' = L) → (k ∉ L.map (·.2) → L'.Perm ((x, k) :: L)) → Q b { s with heap := h' }) :
    wpAny (model P w) A (setAddHashed a (.ref x) (thash P w k)) Q E s := by
  obtain ⟨o, ho, hex, hd⟩ := R.ob
  have len := rows_len R.rows
  unfold setAddHashed
  refine wpAny_holding ?_
  rw [show (100000 : Nat) = 99999 + 1 from rfl, setAddHashedIn_succ]
  refine wpAny_bind (wpAny_setState_of ho hd R.fits ?_)
  dsimp only
  refine wp_if_neg (by simp [byScan, Value.scannable]) ?_
  try refine wpAny_bind (wpAny_pure ?_)
  refine wpAny_bind (search_ R hx hu (fun there => ?_) fun K new st fl => ?_)
  · dsimp only
    exact wpAny_pure (hQ false _ L es ep t (Heap.SameBut.refl a s.heap) R (fun _ => rfl) fun z => absurd there z)
  · dsimp only
    refine wpAny_bind (wpAny_setState_of ho hd R.fits ?_)
    dsimp only
    obtain ⟨p, hp⟩ : ∃ p, SetTable.below t.place (way t.mask (thash P w k) K) = p := ⟨_, rfl⟩
    obtain ⟨q1, q2, q3⟩ := R.tab.put st fl hp
    have q4 : (t.put (way t.mask (thash P w k) K)).2 = p := hp
    have q5 : (t.put (way t.mask (thash P w k) K)).1.mask = t.mask := rfl
    have q6 : (t.put (way t.mask (thash P w k) K)).1.led = t.led := rfl
    have q7 : (t.put (way t.mask (thash P w k) K)).1.plain = true := R.plain
    obtain ⟨pt, ept⟩ : ∃ pt, t.put (way t.mask (thash P w k) K) = pt := ⟨_, rfl⟩
    rw [ept] at q2 q3 q4 q5 q6 q7 ⊢
    obtain ⟨t1, p1⟩ := pt
    dsimp only at q2 q3 q4 q5 q6 q7 ⊢
    subst q4
    first
      | (refine wpAny_bind ?_; refine wp_if_pos q7 ?_; refine hashBy_tup hx ?_)
      | refine wp_if_pos q7 (wpAny_bind (hashBy_tup hx ?_))
    simp only [if_true]
    obtain ⟨es1, ees⟩ : ∃ es1, SetTable.insertAt es p1 (thash P w k, Value.ref x) = es1 := ⟨_, rfl⟩
    obtain ⟨L1, eL⟩ : ∃ L1, L.take p1 ++ (x, k) :: L.drop p1 = L1 := ⟨_, rfl⟩
    have rows1 : es1.toList = rowsOf P w L1 := by rw [← ees, ← eL, SetTable.toList_insertAt, rows_put, R.rows]
    have pm : L1.Perm ((x, k) :: L) := by rw [← eL]; exact put_perm L p1 (x, k)
    have len1 : L1.length = L.length + 1 := pm.length_eq
    have len2 : es1.size = L.length + 1 := (rows_len rows1).trans len1
    have tab1 : TabG t1 (L1.map fun p => thash P w p.2) := by
      rw [← eL, List.map_append, List.map_cons, List.map_take, List.map_drop]
      exact q2
    have nd1 : (L1.map (·.2)).Nodup := (pm.map (·.2)).nodup_iff.mpr (List.nodup_cons.mpr ⟨new, R.nd⟩)
    rw [ees]
    clear ees eL q2
    refine wpAny_bind (wpAny_storeSet_of ho hd ?_ (by rw [len2, sizeLine_eq]; omega))
    have sb : Heap.SameBut a s.heap (s.heap.update a (Obj.putSet es1 t1)) := Heap.SameBut.update ..
    have ho1 := store_at (es' := es1) (t' := t1) ho hd
    obtain ⟨h1, eh⟩ : ∃ h1, s.heap.update a (Obj.putSet es1 t1) = h1 := ⟨_, rfl⟩
    rw [eh] at sb ho1 ⊢
    have tup1 : ∀ p ∈ L1, IsT P w h1 p.2 p.1 := fun p hp => by
      rcases List.mem_cons.mp (pm.mem_iff.mp hp) with rfl | hp
      · exact isT_same hx ho hd sb
      · exact isT_same (R.tup p hp) ho hd sb
    have led1 : w.params.followText "set-order" = true ∨ t1.led = true := by rw [q6]; exact R.led
    have full : t1.tooFull = decide ((L.length + 1) * 5 ≥ t.mask * 3) := by
      unfold SetTable.tooFull
      rw [q3, q5, List.length_map]
    by_cases hf : t1.tooFull = true
    · first
        | (refine wpAny_bind ?_; refine wp_if_pos (by simp [hf]) ?_)
        | (refine wp_if_pos (by simp [hf]) ?_; refine wpAny_bind ?_)
      have room := R.room
      rw [len]
      have gr : SetTable.grown (L.length + 1) = (L.length + 1) * 4 := by unfold SetTable.grown; rw [if_neg (by omega)]
      refine larger (s := { s with heap := h1 }) ho1 ⟨hex.1, hex.2.1, hex.2.2⟩ rfl rows1 (by rw [tab1.len, List.length_map, len1, len2]) tab1.nod (by rw [len2, q5]; have := R.tab.big; omega) nd1 tup1 q7 led1 (by rw [gr]; omega) (by rw [gr, len1]; exact Nat.le_refl _) fun h2 L2 es2 ep2 t2 sb2 R2 pm2 => ?_
      exact wpAny_pure (hQ true h2 L2 es2 ep2 t2 (sb.trans sb2) R2 (fun z => absurd z new) fun _ => pm2.trans pm)
    · first
        | refine wp_if_neg (by simp [hf]) ?_
        | (refine wpAny_bind ?_; refine wp_if_neg (by simp [hf]) ?_; refine wpAny_pure ?_)
      refine wpAny_pure (hQ true h1 L1 es1 (ep + 1) t1 sb { ob := ⟨_, ho1, ⟨hex.1, hex.2.1, hex.2.2⟩, rfl⟩, rows := rows1, tab := tab1, nd := nd1, tup := tup1, plain := q7, led := led1, room := ?_ } (fun z => absurd z new) fun _ => pm)
      rw [full] at hf
      rw [len1, q5]
      simpa using hf
end
end DL
end
section
set_option maxRecDepth 100000
set_option maxHeartbeats 4000000
namespace DL
open PySem PySem.Spec PyProof.Rows L2
abbrev nso (w : World) : Obj := { cls := .type "set", dict := none, data := .set #[] 0 (.fresh 0 0 (!w.params.followText "set-order")) }
section
variable {P : Program} {w : World} {A : Around} {E : Value → Shared → Prop} {s : Shared}
theorem SG.kept {h h' : Heap} {a : Addr} {L : List (Addr × List Int)} {es : Array (Int × Value)} {ep : Nat} {t : SetTable} (R : SG P w h a L es ep t) (ka : ∀ o, h.get? a = some o → h'.get? a = some o) (kt : ∀ p ∈ L, IsT P w h' p.2 p.1) : SG P w h' a L es ep t :=
  let ⟨o, ho, r⟩ := R.ob
  { R with ob := ⟨o, ka o ho, r⟩, tup := kt }
theorem sg_new {h : Heap} {a : Addr} (ho : h.get? a = some (nso w)) : SG P w h a [] #[] 0 (.fresh 0 0 (!w.params.followText "set-order")) where
  ob := ⟨_, ho, ⟨rfl, rfl, rfl⟩, rfl⟩
  rows := rfl
  tab := { up := List.Pairwise.nil, nod := rfl, len := rfl, msk := ⟨3, rfl, by show 7 ≤ 8191; decide⟩, big := Nat.le_refl _, low := fun x hx => (nomatch hx), fnd := fun i h j e => by simp at e }
  nd := List.nodup_nil
  tup := fun p hp => nomatch hp
  plain := rfl
  led := by
    show _ ∨ (!w.params.followText "set-order") = true
    cases w.params.followText "set-order" <;> simp
  room := by show 0 * 5 < 7 * 3; decide
theorem fill_loop {I : Addr} {fp wr : List Addr} {G : Array GenState → Array GenState → Prop} {n : Nat} {Pv : Nat → Value → Prop} {St : Nat → Shared → Prop} {R : Result → Shared → Prop} (W : WalksS P w A.in1 I fp wr G n Pv St)
    (S : Addr) (off : S ∉ fp) (ks : List (Addr × List Int)) (hn : n = ks.length) (few : ks.length ≤ 2047) (vals : ∀ i v, Pv i v → ∃ p, ks[i]? = some p ∧ v = .ref p.1) (h0 : Heap) (tup : ∀ p ∈ ks, IsT P w h0 p.2 p.1) (S0 : h0.get? S = none)
    (w0 : ∀ b ∈ wr, h0.get? b = none) (hu : A.in1.units < cLine) (k : Nat) :
    ∀ (i : Nat) (s : Shared), n - i = k → i ≤ n → St i s → (∀ b o, h0.get? b = some o → s.heap.get? b = some o) → (∃ L es ep t, SG P w s.heap S L es ep t ∧ Got ks i L) →
      (∀ s' L es ep t, Moved (S :: wr) G s s' → SG P w s'.heap S L es ep t → Got ks n L → (∀ b o, h0.get? b = some o → s'.heap.get? b = some o) → R (.ok (.ret .none)) s') →
      codeAny (model P w) A (.builtin "set.update.loop" ⟨[.ref S, .ref I], []⟩) R s := by
  have offw : S ∉ wr := fun z => off (W.sub _ z)
  have wider : ∀ b ∈ wr, b ∈ S :: wr := fun b hb => List.mem_cons_of_mem _ hb
  have old : ∀ {s s' : Shared}, Moved wr G s s' → (∀ b o, h0.get? b = some o → s.heap.get? b = some o) → ∀ b o, h0.get? b = some o → s'.heap.get? b = some o := fun m q b o e =>
    m.heap b o (fun z => by rw [w0 b z] at e; cases e) (q b o e)
  induction k with
  | zero =>
    intro i s e le st q ⟨L, es, ep, t, R0, g⟩ fin
    obtain rfl : i = n := by omega
    refine codeAny_builtin F.entry_set_update_loop ?_
    rw [Around.under_plainId F.plain_set_update_loop _]
    refine wpAny_bind (m := pyNext (.ref I)) (W.done s _ _ st fun s' m => ?_)
    have q' := old m q
    have mem : ∀ p ∈ L, p ∈ ks := fun p hp => List.mem_of_mem_take (g.sub p hp)
    show wpAny _ _ (ret Value.none) _ _ _
    exact wpAny_pure (fin s' L es ep t (m.mono wider) (R0.kept (fun o e => m.heap S o offw e) fun p hp => isT_keep (tup p (mem p hp)) q') g q')
  | succ k ih =>
    intro i s e le st q ⟨L, es, ep, t, R0, g⟩ fin
    refine codeAny_builtin F.entry_set_update_loop ?_
    rw [Around.under_plainId F.plain_set_update_loop _]
    refine wpAny_bind (m := pyNext (.ref I)) (W.item i s _ _ (by omega) st fun v s' pv st' m => ?_)
    obtain ⟨p, hp, rfl⟩ := vals i v pv
    have q' := old m q
    have mem : ∀ p ∈ L, p ∈ ks := fun p hp => List.mem_of_mem_take (g.sub p hp)
    have R1 : SG P w s'.heap S L es ep t := R0.kept (fun o e => m.heap S o offw e) fun p hp => isT_keep (tup p (mem p hp)) q'
    have hx : IsT P w s'.heap p.2 p.1 := isT_keep (tup p (List.mem_of_getElem? hp)) q'
    refine wpAny_bind (m := holding [Value.ref p.1] (setAdd S (.ref p.1))) (wpAny_holding ?_)
    unfold setAdd
    refine wpAny_holding (wpAny_bind (wpAny_pyHash_tuple hu hx ?_))
    refine add_more (s := { s' with toks := s'.toks + (p.2.length + 1) }) R1 hx hu (by have := g.len; omega) fun b h' L' es' ep' t' sb R2 c1 c2 => ?_
    have g' : Got ks (i + 1) L' := by
      by_cases c : p.2 ∈ L.map (·.2)
      · rw [c1 c]; exact g.same hp c
      · exact g.more hp (c2 c)
    have q2 : ∀ b o, h0.get? b = some o → h'.get? b = some o := fun b o e => (sb.2 b (fun z => by rw [z, S0] at e; cases e)).trans (q' b o e)
    refine wpAny_pure ⟨plainId_quiet F.plain_set_update_loop _, ih (i + 1) _ (by omega) (by omega) (W.frame _ s' _ _ st' (Nat.le_add_right _ _) fun b hb o e => ?_) q2 ⟨L', es', ep', t', R2, g'⟩ fun s2 L2 es2 ep2 t2 m2 R3 g2 q3 => ?_⟩
    · rw [sb.2 b (fun z => off (by rw [← z]; exact hb))]; exact e
    · refine fin s2 L2 es2 ep2 t2 (Moved.trans W.gtrans ((m.mono wider).then_heap (Nat.le_add_right _ _) fun b o hb e => ?_) m2) R3 g2 q3
      rw [sb.2 b (fun z => hb (by rw [z]; exact List.mem_cons_self))]; exact e
theorem set_of_list {l : Addr} {items : Array Value} (ks : List (Addr × List Int)) {Q : Value → Shared → Prop} (hh : A.handled = none) (hl : s.heap.IsList l items) (hi : items.toList = ks.map fun p => Value.ref p.1)
    (tup : ∀ p ∈ ks, IsT P w s.heap p.2 p.1) (few : ks.length ≤ 2047) (hu : A.units + 3 < cLine)
    (fin : ∀ (h' : Heap) (tk : Nat) L es ep t, SG P w h' s.heap.objs.size L es ep t → Got ks ks.length L → (∀ b o, s.heap.get? b = some o → h'.get? b = some o) → Q (.ref s.heap.objs.size) { s with heap := h', toks := tk }) :
    wpAny (model P w) A (call (.type "set") [.ref l]) Q E s := by
  have isz : items.size = ks.length := by
    have := congrArg List.length hi
    simpa using this
  obtain ⟨c, tl, x1⟩ := F.called_set.mro
  have x2 := F.called_set.made
  have x3 := F.called_set.sub
  refine wpAny_call (codeAny_of_tree ?_)
  show wpAny _ _ (callAny (.type "set") _) _ _ _
  refine wpAny_pure ⟨Code.quiet_builtin _ (by decide +kernel), codeAny_builtin F.entry_type_call ?_⟩
  rw [Around.under_plain (weight_type_call_type "set" [.ref l] []) rfl]
  have x4 := F.called_set.notType
  have x5 := F.called_set.canCreate
  have x6 := F.typeCall_set_1 (.ref l)
  repeat (any_goals (first | assumption | wp_step))
  refine codeAny_mono (code_set_led1 (.ref l) (E := E) (Q₁ := fun u z => u = .ref s.heap.objs.size ∧ z = { s with heap := s.heap.push (nso w) }) ⟨rfl, rfl⟩) fun r z hr => ?_
  match r, hr with
  | .error e, hr => exact hr
  | .ok (.ret u), ⟨e1, e2⟩ =>
    subst e1 e2
    have at_ : (s.heap.push (nso w)).get? s.heap.objs.size = some (nso w) := Heap.get?_push_size _ rfl
    have hT : Shared.TypeIs { s with heap := s.heap.push (nso w) } (.ref s.heap.objs.size) "set" := ⟨_, at_, rfl⟩
    have x7 := F.called_set.init.lookup
    have x8 := F.called_set.init.bind (.ref s.heap.objs.size)
    repeat (any_goals (first | assumption | wp_step))
    refine codeAny_mono (codeAny_call_builtin (R := wants (fun r z => r = .none ∧ ∃ h' tk L es ep t, z = { s with heap := h', toks := tk } ∧ SG P w h' s.heap.objs.size L es ep t ∧ Got ks ks.length L ∧ (∀ b o, s.heap.get? b = some o → h'.get? b = some o)) E)
      F.called_set.init.plain F.entry_set_init (check_set_init_1 hT ?_)) fun r z hr => ?_
    · have hl1 : (s.heap.push (nso w)).IsList l items := hl.push _
      obtain ⟨⟨ocls, odict, odata, oslots⟩, hol, hc, nl, hdl⟩ := hl
      simp only at hc hdl
      subst hc hdl
      have hol' : (s.heap.push (nso w)).get? l = some { cls := .type "list", dict := odict, data := .seq items nl, slots := oslots } := Heap.get?_push_of_some _ hol
      have y1 := F.sub_list_set
      have y2 := F.sub_list_frozenset
      have y3 : (Value.type "list" == Value.type "dict") = false := by decide
      unfold Builtin.«set.__init__» noKeywords Builtin.Frozenset.updateFrom
      obtain ⟨it, hit⟩ : ∃ it, it = pyIter := ⟨_, rfl⟩
      rw [← hit]
      wp_walk
      subst hit
      refine wpAny_pyIter_list hl1 (wpAny_bind (wpAny_runValue ?_))
      have llt : @LT.lt Nat _ l s.heap.objs.size := Heap.lt_size hol
      have sz : (s.heap.push (nso w)).objs.size = s.heap.objs.size + 1 := Heap.size_push ..
      have free : ∀ b, s.heap.objs.size ≤ b → s.heap.get? b = none := fun b hb => by
        cases q : s.heap.get? b with
        | none => rfl
        | some o => exact absurd (Nat.lt_of_lt_of_le (Heap.lt_size q) hb) (Nat.lt_irrefl _)
      refine fill_loop ((Walks.list (A := A.in1.in1.in1) (by simp [hh]) _ l (by rw [sz]; exact Nat.ne_of_lt (Nat.lt_succ_of_lt llt)) items).toS) s.heap.objs.size (by rw [sz]; simp only [List.mem_cons, List.not_mem_nil, or_false, not_or]; exact ⟨Nat.ne_of_lt (Nat.lt_succ_self _), Nat.ne_of_gt llt⟩) ks isz few (fun i v e => ?vals) s.heap tup (free _ (Nat.le_refl _))
        (fun b hb => free _ (by rw [List.mem_singleton.mp hb, sz]; exact Nat.le_succ _)) hu items.size 0 _ rfl (Nat.zero_le _) ⟨⟨_, Heap.get?_push_size _ rfl, rfl, rfl⟩, hl1.push _⟩ (fun b o e => Heap.get?_push_of_some _ (Heap.get?_push_of_some _ e))
        ⟨[], #[], 0, _, sg_new (Heap.get?_push_of_some _ at_), Got.zero ks⟩ fun z L es ep t m R1 g q => ?fin
      case vals =>
        have e : items.toList[i]? = some v := by rw [Array.getElem?_toList]; exact e
        rw [hi, List.getElem?_map] at e
        obtain ⟨p, h1, h2⟩ := Option.map_eq_some_iff.mp e
        exact ⟨p, h1, h2.symm⟩
      case fin =>
        obtain ⟨h', g2, d2, tk, o2⟩ := z
        have eg : g2 = s.gens := m.gens
        have ed : d2 = s.drawn := m.drawn
        have eo : o2 = s.os := m.os
        subst eg ed eo
        show wpAny _ _ _ _ _ _
        rw [isz] at g
        refine wpAny_pure ?_
        show wpAny _ _ (ret Value.none) _ _ _
        exact wpAny_pure ⟨rfl, h', tk, L, es, ep, t, rfl, R1, g, q⟩
    · match r, hr with
      | .error e, hr => exact hr
      | .ok (.ret u), hr =>
        obtain ⟨e1, h', tk, L, es, ep, t, e2, R1, g, q⟩ := hr
        subst e1 e2
        repeat (any_goals (first | assumption | wp_step))
        exact fin _ _ _ _ _ _ R1 g q
theorem set_of_tuple {l : Addr} {items : Array Value} (ks : List (Addr × List Int)) {Q : Value → Shared → Prop} (hh : A.handled = none) (hl : s.heap.IsTuple l items) (hi : items.toList = ks.map fun p => Value.ref p.1)
    (tup : ∀ p ∈ ks, IsT P w s.heap p.2 p.1) (few : ks.length ≤ 2047) (hu : A.units + 3 < cLine)
    (fin : ∀ (h' : Heap) (tk : Nat) L es ep t, SG P w h' s.heap.objs.size L es ep t → Got ks ks.length L → (∀ b o, s.heap.get? b = some o → h'.get? b = some o) → Q (.ref s.heap.objs.size) { s with heap := h', toks := tk }) :
    wpAny (model P w) A (call (.type "set") [.ref l]) Q E s := by
  have isz : items.size = ks.length := by
    have := congrArg List.length hi
    simpa using this
  obtain ⟨c, tl, x1⟩ := F.called_set.mro
  have x2 := F.called_set.made
  have x3 := F.called_set.sub
  refine wpAny_call (codeAny_of_tree ?_)
  show wpAny _ _ (callAny (.type "set") _) _ _ _
  refine wpAny_pure ⟨Code.quiet_builtin _ (by decide +kernel), codeAny_builtin F.entry_type_call ?_⟩
  rw [Around.under_plain (weight_type_call_type "set" [.ref l] []) rfl]
  have x4 := F.called_set.notType
  have x5 := F.called_set.canCreate
  have x6 := F.typeCall_set_1 (.ref l)
  repeat (any_goals (first | assumption | wp_step))
  refine codeAny_mono (code_set_led1 (.ref l) (E := E) (Q₁ := fun u z => u = .ref s.heap.objs.size ∧ z = { s with heap := s.heap.push (nso w) }) ⟨rfl, rfl⟩) fun r z hr => ?_
  match r, hr with
  | .error e, hr => exact hr
  | .ok (.ret u), ⟨e1, e2⟩ =>
    subst e1 e2
    have at_ : (s.heap.push (nso w)).get? s.heap.objs.size = some (nso w) := Heap.get?_push_size _ rfl
    have hT : Shared.TypeIs { s with heap := s.heap.push (nso w) } (.ref s.heap.objs.size) "set" := ⟨_, at_, rfl⟩
    have x7 := F.called_set.init.lookup
    have x8 := F.called_set.init.bind (.ref s.heap.objs.size)
    repeat (any_goals (first | assumption | wp_step))
    refine codeAny_mono (codeAny_call_builtin (R := wants (fun r z => r = .none ∧ ∃ h' tk L es ep t, z = { s with heap := h', toks := tk } ∧ SG P w h' s.heap.objs.size L es ep t ∧ Got ks ks.length L ∧ (∀ b o, s.heap.get? b = some o → h'.get? b = some o)) E)
      F.called_set.init.plain F.entry_set_init (check_set_init_1 hT ?_)) fun r z hr => ?_
    · have hl1 : (s.heap.push (nso w)).IsTuple l items := hl.push _
      obtain ⟨⟨ocls, odict, odata, oslots⟩, hol, hc, nl, hdl⟩ := hl
      simp only at hc hdl
      subst hc hdl
      have hol' : (s.heap.push (nso w)).get? l = some { cls := .type "tuple", dict := odict, data := .seq items nl, slots := oslots } := Heap.get?_push_of_some _ hol
      have y1 := F.sub_tuple_set
      have y2 := F.sub_tuple_frozenset
      have y3 : (Value.type "tuple" == Value.type "dict") = false := by decide
      unfold Builtin.«set.__init__» noKeywords Builtin.Frozenset.updateFrom
      obtain ⟨it, hit⟩ : ∃ it, it = pyIter := ⟨_, rfl⟩
      rw [← hit]
      wp_walk
      subst hit
      refine wpAny_pyIter_tuple hl1 (wpAny_bind (wpAny_runValue ?_))
      have llt : @LT.lt Nat _ l s.heap.objs.size := Heap.lt_size hol
      have sz : (s.heap.push (nso w)).objs.size = s.heap.objs.size + 1 := Heap.size_push ..
      have free : ∀ b, s.heap.objs.size ≤ b → s.heap.get? b = none := fun b hb => by
        cases q : s.heap.get? b with
        | none => rfl
        | some o => exact absurd (Nat.lt_of_lt_of_le (Heap.lt_size q) hb) (Nat.lt_irrefl _)
      refine fill_loop ((Walks.tuple (A := A.in1.in1.in1) (by simp [hh]) _ l (by rw [sz]; exact Nat.ne_of_lt (Nat.lt_succ_of_lt llt)) items).toS) s.heap.objs.size (by rw [sz]; simp only [List.mem_cons, List.not_mem_nil, or_false, not_or]; exact ⟨Nat.ne_of_lt (Nat.lt_succ_self _), Nat.ne_of_gt llt⟩) ks isz few (fun i v e => ?vals) s.heap tup (free _ (Nat.le_refl _))
        (fun b hb => free _ (by rw [List.mem_singleton.mp hb, sz]; exact Nat.le_succ _)) hu items.size 0 _ rfl (Nat.zero_le _) ⟨⟨_, Heap.get?_push_size _ rfl, rfl, rfl⟩, hl1.push _⟩ (fun b o e => Heap.get?_push_of_some _ (Heap.get?_push_of_some _ e))
        ⟨[], #[], 0, _, sg_new (Heap.get?_push_of_some _ at_), Got.zero ks⟩ fun z L es ep t m R1 g q => ?fin
      case vals =>
        have e : items.toList[i]? = some v := by rw [Array.getElem?_toList]; exact e
        rw [hi, List.getElem?_map] at e
        obtain ⟨p, h1, h2⟩ := Option.map_eq_some_iff.mp e
        exact ⟨p, h1, h2.symm⟩
      case fin =>
        obtain ⟨h', g2, d2, tk, o2⟩ := z
        have eg : g2 = s.gens := m.gens
        have ed : d2 = s.drawn := m.drawn
        have eo : o2 = s.os := m.os
        subst eg ed eo
        show wpAny _ _ _ _ _ _
        rw [isz] at g
        refine wpAny_pure ?_
        show wpAny _ _ (ret Value.none) _ _ _
        exact wpAny_pure ⟨rfl, h', tk, L, es, ep, t, rfl, R1, g, q⟩
    · match r, hr with
      | .error e, hr => exact hr
      | .ok (.ret u), hr =>
        obtain ⟨e1, h', tk, L, es, ep, t, e2, R1, g, q⟩ := hr
        subst e1 e2
        repeat (any_goals (first | assumption | wp_step))
        exact fin _ _ _ _ _ _ R1 g q
end
end DL
end
section
set_option maxRecDepth 100000
set_option maxHeartbeats 4000000
namespace DL
open PySem PySem.Spec PyProof.Rows L2
def prI (k : List Int) : Int × Int := (k.getD 0 0, k.getD 1 0)
theorem isPair_uniq {h : Heap} {v : Value} {x y x' y' : Int} (a : Srt.IsPair h v x y) (b : Srt.IsPair h v x' y') : (x, y) = (x', y') := by
  obtain ⟨b1, o, t, u, n, e, ho, hc, hd⟩ := a
  obtain ⟨b2, o2, t2, u2, n2, e2, ho2, hc2, hd2⟩ := b
  rw [e] at e2
  cases e2
  rw [ho] at ho2
  cases ho2
  rw [hd] at hd2
  cases hd2
  rfl
open Classical in
noncomputable def pairAt (h : Heap) (v : Value) : Int × Int := if q : ∃ p : Int × Int, Srt.IsPair h v p.1 p.2 then Classical.choose q else (0, 0)
theorem pairAt_eq {h : Heap} {v : Value} {x y : Int} (p : Srt.IsPair h v x y) : pairAt h v = (x, y) := by
  have q : ∃ p : Int × Int, Srt.IsPair h v p.1 p.2 := ⟨(x, y), p⟩
  unfold pairAt
  rw [dif_pos q]
  exact isPair_uniq (Classical.choose_spec q) p
theorem isPair_of {P : Program} {w : World} {h : Heap} {k : List Int} {b : Addr} (x : IsT P w h k b) (l : k.length = 2) : Srt.IsPair h (.ref b) (prI k).1 (prI k).2 := by
  match k, l with
  | [i, j], _ =>
    obtain ⟨o, items, n, ho, hc, hd, hi⟩ := x
    cases hi' : items.toList with
    | nil => rw [hi'] at hi; cases hi
    | cons u us =>
      rw [hi'] at hi
      cases hi with
      | cons h1 h2 =>
        cases h2 with
        | cons h3 h4 =>
          cases h4
          rename_i u2
          obtain ⟨t1, rfl⟩ := Value.isInt_shape h1
          obtain ⟨t2, rfl⟩ := Value.isInt_shape h3
          refine ⟨b, o, t1, t2, n, rfl, ho, hc, ?_⟩
          rw [hd]
          have : items = #[.int i t1, .int j t2] := by
            apply Array.ext'
            exact hi'
          rw [this]
          rfl
section
variable {P : Program} {w : World} {A : Around} {E : Value → Shared → Prop} {s : Shared}
theorem refs_pull {L : List (Addr × List Int)} : ∀ {vs : List Value}, (∀ v ∈ vs, ∃ q ∈ L, v = Value.ref q.1) → ∃ L1 : List (Addr × List Int), vs = L1.map (fun q => Value.ref q.1) ∧ ∀ q ∈ L1, q ∈ L
  | [], _ => ⟨[], rfl, fun q hq => nomatch hq⟩
  | v :: vs, h => by
    obtain ⟨q, hq, rfl⟩ := h v List.mem_cons_self
    obtain ⟨L1, rfl, h2⟩ := refs_pull (vs := vs) fun u hu => h u (List.mem_cons_of_mem _ hu)
    exact ⟨q :: L1, rfl, fun r hr => (List.mem_cons.mp hr).elim (fun e => by rw [e]; exact hq) (h2 r)⟩
theorem sorted_SG {a : Addr} {L : List (Addr × List Int)} {es : Array (Int × Value)} {ep : Nat} {t : SetTable} {Q : Value → Shared → Prop} (R : SG P w s.heap a L es ep t) (hh : A.handled = none) (two : ∀ p ∈ L, p.2.length = 2)
    (few : L.length ≤ 2047) (fin : ∀ s' p (out : Array Value) (c : Nat) (L' : List (Addr × List Int)), (∀ b o, s.heap.get? b = some o → s'.heap.get? b = some o) → s'.gens = s.gens → s'.os = s.os → s.heap.objs.size ≤ p →
      s'.heap.get? p = some (seqObj "list" out c) → out.toList = L'.map (fun q => Value.ref q.1) → L'.Perm L → L'.Pairwise (fun q r => SrtO.lexB (prI r.2) (prI q.2) = false) → Q (.ref p) s') :
    wpAny (model P w) A (call (.builtin "sorted") [.ref a]) Q E s := by
  obtain ⟨o, ho, hex, hd⟩ := R.ob
  have sz := rows_len R.rows
  refine Calls.call_function_entry kind_sorted plain_sorted entry_sorted (args_sorted1 _) ?_
  unfold Builtin.«sorted»
  refine wpAny_bind (m := checkCount "sorted" 1 1 _) (wpAny_pure ?_)
  refine wpAny_bind (collect_set (A := A.in1) hh ⟨o, ho, hex.1, hd⟩ R.fits (by unfold scanBound; omega) R.tab.up R.led fun s1 vs k1 hz g1 o1 pm => ?_)
  have es_ : es.toList.map (·.2) = L.map fun q => Value.ref q.1 := by
    rw [R.rows]
    unfold rowsOf
    rw [List.map_map]
    rfl
  rw [es_] at pm
  have one : ∀ q ∈ L, ∀ r ∈ L, q.1 = r.1 → q = r := fun q hq r hr e => by
    have a1 := R.tup q hq
    rw [e] at a1
    exact Prod.ext e (a1.inj (R.tup r hr))
  have len : vs.length ≤ 2047 := by rw [pm.length_eq, List.length_map]; exact few
  have szl : vs.length ≤ sizeLine := by rw [sizeLine_eq]; omega
  refine wpAny_bind (wpAny_newList ?_ szl)
  have at_ : (s1.heap.push (seqObj "list" vs.toArray 0)).get? s1.heap.objs.size = some (seqObj "list" vs.toArray 0) := Heap.get?_push_size _ rfl
  have pr : ∀ q ∈ L, Srt.IsPair (s1.heap.push (seqObj "list" vs.toArray 0)) (.ref q.1) (prI q.2).1 (prI q.2).2 := fun q hq => isPair_of (isT_keep (R.tup q hq) fun b u e => Heap.get?_push_of_some _ (k1 b u e)) (two q hq)
  obtain ⟨H1, eH⟩ : ∃ H1, s1.heap.push (seqObj "list" vs.toArray 0) = H1 := ⟨_, rfl⟩
  rw [eH] at at_ pr
  have prv : ∀ v ∈ vs, Srt.IsPair H1 v (pairAt H1 v).1 (pairAt H1 v).2 := fun v hv => by
    obtain ⟨q, hq, rfl⟩ := List.mem_map.mp (pm.mem_iff.mp hv)
    rw [pairAt_eq (pr q hq)]
    exact pr q hq
  refine wpAny_bind (wpAny_holding ?_)
  show wpAny _ _ _ _ _ { s1 with heap := s1.heap.push (seqObj "list" vs.toArray 0) }
  rw [eH]
  refine wpAny_call_entry slot_list_sort ⟨_, at_, rfl⟩ entry_list_sort (SrtO.list_sort_ord (s := { s1 with heap := H1 }) (SrtO.swo_lex (pairAt H1)) at_ szl (fun h2 => SrtO.pairs_sortableO (by omega) prv fun o e c => ?_) fun out hs hb => ⟨_, rfl, ?_⟩) (args_list_sort _)
  · have e' : some o = some (seqObj "list" vs.toArray 0) := e.symm.trans at_
    cases e'
    exact absurd (Value.type.inj c) (by decide)
  · obtain ⟨c, hc⟩ := sortedHeap_at (vs := vs) (out := out.toArray) at_
    obtain ⟨L', e', sub⟩ := refs_pull (L := L) (vs := out) fun v hv => by
      obtain ⟨q, hq, e⟩ := List.mem_map.mp (pm.mem_iff.mp (hb.perm.mem_iff.mp hv))
      exact ⟨q, hq, e.symm⟩
    have p1 : (L'.map fun q => Value.ref q.1).Perm (L.map fun q => Value.ref q.1) := by rw [← e']; exact hb.perm.trans pm
    have nL : L.Nodup := nodup_of_map R.nd
    have nr : (L.map fun q => Value.ref q.1).Nodup := by
      refine List.pairwise_map.mpr (List.Pairwise.imp_of_mem (fun {q r} hq hr ne e => ?_) nL)
      exact ne (one q hq r hr (by injection e))
    have pL : L'.Perm L := by
      refine (List.perm_ext_iff_of_nodup (nodup_of_map (p1.nodup_iff.mpr nr)) nL).mpr fun q => ⟨sub q, fun hq => ?_⟩
      obtain ⟨r, hr, e⟩ := List.mem_map.mp (p1.mem_iff.mpr (List.mem_map.mpr ⟨q, hq, rfl⟩))
      rw [← one r (sub r hr) q hq (by injection e)]
      exact hr
    refine wpAny_pure ⟨_, rfl, fin _ s1.heap.objs.size out.toArray c L' (fun b u e => ?_) g1 o1 hz hc (by simpa using e') pL ?_⟩
    · have q := k1 b u e
      have lt := Heap.lt_size q
      show (sortedHeap H1 s1.heap.objs.size vs out.toArray).get? b = some u
      rw [sortedHeap_old (Nat.ne_of_lt lt) (by rw [← eH, size_push']; exact Nat.lt_succ_of_lt lt), ← eH]
      exact Heap.get?_push_of_some _ q
    · have hs : out.Pairwise (fun u v => SrtO.lexB (pairAt H1 v) (pairAt H1 u) = false) := hs
      rw [e'] at hs
      refine List.Pairwise.imp_of_mem (fun {q r} hq hr z => ?_) (List.pairwise_map.mp hs)
      rw [pairAt_eq (pr q (sub q hq)), pairAt_eq (pr r (sub r hr))] at z
      exact z
end
end DL
end
section
set_option maxRecDepth 100000
set_option maxHeartbeats 4000000
namespace DL
open PySem PySem.Spec PyProof.Rows L2
abbrev Vec := Int × Int
def vD (v : Vec) : D := .tuple [.int v.1, .int v.2]
def vLt (u v : Vec) : Prop := u.1 < v.1 ∨ (u.1 = v.1 ∧ u.2 < v.2)
section
variable {X : Cx}
def refsV (ks : List (Addr × List Int)) : List V := ks.map fun p => V.ref p.1
def tSS (K : PySem.W.Frag) (ta : TE) : TE := fun σ H Q => ta σ H fun x H1 => ∃ (l : Addr) (ks : List (Addr × List Int)), x = V.ref l ∧ (SqL K H1 l (refsV ks) ∨ SqT K H1 l (refsV ks)) ∧ (∀ p ∈ ks, SqT K H1 p.1 (p.2.map V.int) ∧ p.2.length = 2) ∧ ks.length ≤ 2047 ∧
  ∀ (L : List (Addr × List Int)) (p : Addr), (∀ q ∈ L, q ∈ ks) → (∀ q ∈ ks, q.2 ∈ L.map (·.2)) → (L.map (·.2)).Nodup → L.Pairwise (fun q r => SrtO.lexB (prI r.2) (prI q.2) = false) → H1 p = none → Q (.ref p) (upd H1 p (.lst (refsV L)))
theorem pe_sset {a : Expr} {ta : TE} {p p2 q pos : Pos} (hc : X.calm = true) (hu : X.A.units + 64 < cLine) (hg : Gl X "sorted") (hm : X.mg "sorted" = none) (hg2 : Gl X "set") (hm2 : X.mg "set" = none) (ha : PE X a ta)
    (na : starEach [a] X.env = (false, eval a X.env) :: starEach [] X.env := by rfl) : PE X (.Call (.Name "sorted" p) [.Call (.Name "set" p2) [a] [] q] [] pos) (tSS X.K ta) := by
  refine ⟨fun pins s σ H Q I h => ?_⟩
  refine Call_ (ld_blt I hg hm PyProof.Rows.boot_sorted ?_)
  refine PyProof.Rows.callWith_builtin1 (PyProof.Rows.args_cons ?_ rfl) rfl rfl
  refine Call_ (ld_blt I hg2 hm2 PyProof.Rows.boot_set ?_)
  refine PyProof.Rows.callWith_type1 (PyProof.Rows.args_cons (thn (ha.run pins s σ H _ I h) fun v s1 ⟨x, H1, I1, r1, q1⟩ => PyProof.Rows.args_nil ?_) na) na rfl
  obtain ⟨l, ks, rfl, hq, hk, few, q1⟩ := q1
  cases r1
  have tup : ∀ p ∈ ks, IsT X.prog X.w s1.heap p.2 p.1 := fun p hp => I1.isT (hk p hp).1
  suffices fin : ∀ (s2 : Shared) (n : Addr) L es ep t, Inv X pins σ H1 s2 → SG X.prog X.w s2.heap n L es ep t → Got ks ks.length L → wpAny (model X.prog X.w) X.A (call (.builtin "sorted") [.ref n]) (EP X pins σ Q) X.xe s2 by
    rcases hq with hq | hq
    · obtain ⟨its, rv, pl, hz⟩ := I1.list hq
      exact set_of_list (P := X.prog) (w := X.w) ks (I1.ok.hd hc) pl.isList (by simpa using refs_of_vals rv) tup few (by omega) fun h' tk L es ep t R g k => PyProof.Rows.args_nil (fin _ _ L es ep t (I1.kept k) R g)
    · obtain ⟨its, rv, pl, hz⟩ := I1.tuple hq
      exact set_of_tuple (P := X.prog) (w := X.w) ks (I1.ok.hd hc) pl (by simpa using refs_of_vals rv) tup few (by omega) fun h' tk L es ep t R g k => PyProof.Rows.args_nil (fin _ _ L es ep t (I1.kept k) R g)
  intro s2 n L es ep t I2 R g
  have sub : ∀ p ∈ L, p ∈ ks := fun p hp => List.mem_of_mem_take (g.sub p hp)
  refine sorted_SG R (I2.ok.hd hc) (fun p hp => (hk p (sub p hp)).2) (Nat.le_trans g.len few) fun s' p out c L' k2 g2 o2 hp hg hout pm pw => ?_
  have len : (refsV L').length ≤ sizeLine := by
    have := g.len
    show (L'.map fun p => V.ref p.1).length ≤ _
    rw [List.length_map, pm.length_eq, sizeLine_eq]
    omega
  have hn : H1 p = none := I2.hok.fresh hp
  have J : Inv X pins σ (upd H1 p (.lst (refsV L'))) { s2 with heap := s'.heap, gens := s'.gens, drawn := s'.drawn, toks := s'.toks } :=
    I2.call (ch := []) (Un.laid k2 hp hn) (I2.hok.laid k2 hp ⟨len, out.toList, c, by rw [hout]; exact vals_of_refs L', hg⟩) (by rw [g2]; exact I2.bare) (fun _ z => nomatch z)
  have e : s' = { s2 with heap := s'.heap, gens := s'.gens, drawn := s'.drawn, toks := s'.toks } := by
    cases s'
    cases s2
    cases o2
    rfl
  rw [e]
  refine ⟨.ref p, _, J, rfl, q1 L' p (fun q hq => sub q (pm.mem_iff.mp hq)) (fun q hq => ?_) ((pm.map (·.2)).nodup_iff.mpr R.nd) pw hn⟩
  rw [(pm.map (·.2)).mem_iff]
  exact g.all q (by rw [List.take_length]; exact hq)
end
theorem vs_keys {K : PySem.W.Frag} {F : Hp} : ∀ {vs : List Vec} {xs : List V}, DqAll K F xs (vs.map vD) → ∃ ks : List (Addr × List Int), xs = refsV ks ∧ (∀ p ∈ ks, SqT K F p.1 (p.2.map V.int) ∧ p.2.length = 2) ∧ ks.map (fun p => prI p.2) = vs
  | [], _, h => by cases h; exact ⟨[], rfl, fun p hp => (nomatch hp), rfl⟩
  | v :: vs, _, h => by
    cases h with
    | cons h1 h2 =>
      obtain ⟨ks, e, a, b⟩ := vs_keys h2
      subst e
      cases h1 with
      | tup h1 hn h3 =>
        rename_i t xs
        cases h3 with
        | cons h4 h5 =>
          cases h5 with
          | cons h5 h6 =>
            cases h6
            cases h4
            cases h5
            refine ⟨(t, [v.1, v.2]) :: ks, rfl, fun p hp => ?_, by rw [List.map_cons, b]; rfl⟩
            rcases List.mem_cons.mp hp with rfl | hp
            · exact ⟨h1, rfl⟩
            · exact a p hp
theorem prI_inj {k l : List Int} (hk : k.length = 2) (hl : l.length = 2) (e : prI k = prI l) : k = l := by
  match k, l, hk, hl with
  | [a, b], [c, d], _, _ =>
    have e1 : a = c := congrArg Prod.fst e
    have e2 : b = d := congrArg Prod.snd e
    rw [e1, e2]
theorem keys_vs {K : PySem.W.Frag} {F : Hp} : ∀ {ks : List (Addr × List Int)}, (∀ p ∈ ks, SqT K F p.1 (p.2.map V.int) ∧ p.2.length = 2) → DqAll K F (refsV ks) ((ks.map fun p => prI p.2).map vD)
  | [], _ => .nil
  | (a, k) :: ks, h => by
    obtain ⟨h1, h2⟩ := h (a, k) List.mem_cons_self
    match k, h2 with
    | [i, j], _ => exact .cons (.tup h1 (fun z => by cases z) (.cons (.int i) (.cons (.int j) .nil))) (keys_vs fun p hp => h p (List.mem_cons_of_mem _ hp))
theorem sset_out {ks L : List (Addr × List Int)} {vs : List Vec} (two : ∀ p ∈ ks, p.2.length = 2) (e : ks.map (fun p => prI p.2) = vs) (sub : ∀ q ∈ L, q ∈ ks) (all : ∀ q ∈ ks, q.2 ∈ L.map (·.2)) (nd : (L.map (·.2)).Nodup)
    (pw : L.Pairwise (fun q r => SrtO.lexB (prI r.2) (prI q.2) = false)) : (L.map fun p => prI p.2).Pairwise vLt ∧ ∀ v, v ∈ (L.map fun p => prI p.2) ↔ v ∈ vs := by
  constructor
  · rw [List.pairwise_map]
    have nd2 : L.Pairwise (fun q r => q.2 ≠ r.2) := List.pairwise_map.mp nd
    refine List.Pairwise.imp_of_mem (fun {q r} hq hr h => ?_) (pw.and nd2)
    obtain ⟨h1, h2⟩ := h
    have ne : prI q.2 ≠ prI r.2 := fun z => h2 (prI_inj (two q (sub q hq)) (two r (sub r hr)) z)
    have h1 := SrtO.lexB_no.mp h1
    have ne2 : ¬ ((prI q.2).1 = (prI r.2).1 ∧ (prI q.2).2 = (prI r.2).2) := fun z => ne (Prod.ext z.1 z.2)
    unfold vLt
    omega
  · intro v
    rw [← e]
    constructor
    · intro h
      obtain ⟨q, hq, rfl⟩ := List.mem_map.mp h
      exact List.mem_map.mpr ⟨q, sub q hq, rfl⟩
    · intro h
      obtain ⟨q, hq, rfl⟩ := List.mem_map.mp h
      obtain ⟨r, hr, e2⟩ := List.mem_map.mp (all q hq)
      exact List.mem_map.mpr ⟨r, hr, by rw [e2]⟩
end DL
end
section
set_option maxRecDepth 100000
set_option maxHeartbeats 4000000
namespace DL
open PySem PySem.Spec PyProof.Rows L2
section
variable {prog : Program} {w : World} {A : Around} {E : Value → Shared → Prop} {s : Shared}
theorem adjust_rev (n : Nat) : Builtin.Slice.sliceAdjust none none (-1) (n : Int) = ((n : Int) - 1, -1) := by
  unfold Builtin.Slice.sliceAdjust
  simp
theorem places_rev (n : Nat) : Builtin.Slice.slicePlaces ((n : Int) - 1) (-1) (-1) = n := by
  unfold Builtin.Slice.slicePlaces
  have h1 : ¬ ((-1 : Int) > 0) := by decide
  have e : ((n : Int) - 1 - -1 - 1) / (- -1) = (n : Int) - 1 := by
    rw [show (- -1 : Int) = 1 by decide, Int.ediv_one]
    omega
  simp only [h1, if_false, e]
  split <;> omega
theorem sliceApplied_rev {sl : Addr} {vs : Value} {n : Nat} {Q : Int × Int × Nat → Shared → Prop} (hs : s.heap.IsSliceOf sl .none .none vs) (ps : IsPart vs (some (-1))) (h : Q ((n : Int) - 1, -1, n) s) :
    wpAny (model prog w) A (Builtin.Slice.sliceApplied (.ref sl) (pure (n : Int))) Q E s := by
  obtain ⟨os, hos, hcs, hds⟩ := id hs
  unfold Builtin.Slice.sliceApplied Builtin.Slice.sliceFields
  refine wpAny_bind (wpAny_bind (wpAny_field hos hds (x := .none) rfl (wpAny_bind (wpAny_field hos hds (x := .none) rfl (wpAny_bind (wpAny_field hos hds (x := vs) rfl (wpAny_pure ?_)))))))
  refine wpAny_bind (HT.slicePart_ ps ?_)
  show wpAny _ _ (if ((-1 : Int) == 0) = true then _ else _) _ _ s
  rw [if_neg (by decide)]
  refine wpAny_bind (slicePart_none (wpAny_bind (slicePart_none (wpAny_bind (wpAny_pure ?_)))))
  show wpAny _ _ (match Builtin.Slice.sliceAdjust none none (-1) (n : Int) with | (lo, hi) => pure (lo, (-1 : Int), Builtin.Slice.slicePlaces lo hi (-1))) _ _ s
  rw [adjust_rev]
  show wpAny _ _ (pure ((n : Int) - 1, (-1 : Int), Builtin.Slice.slicePlaces ((n : Int) - 1) (-1) (-1))) _ _ s
  rw [places_rev]
  exact wpAny_pure h
theorem pick_rev (xs : Array Value) : ((List.range xs.size).filterMap fun (m : Nat) => xs[(((xs.size : Int) - 1) + (m : Int) * -1).toNat]?).toArray = xs.toList.reverse.toArray := by
  have e : (fun (m : Nat) => xs[(((xs.size : Int) - 1) + (m : Int) * -1).toNat]?) = (fun k => xs[k]?) ∘ fun k => xs.size - 1 - k := by
    funext m
    show xs[(((xs.size : Int) - 1) + (m : Int) * -1).toNat]? = xs[xs.size - 1 - m]?
    rw [show (((xs.size : Int) - 1) + (m : Int) * -1).toNat = xs.size - 1 - m by omega]
  rw [e, ← List.filterMap_map, PySem.W.krv_range, List.filterMap_reverse, PySem.W.krv_all]
theorem getItem_tuple_rev {t sl : Addr} {items : Array Value} {vs : Value} {Q : Value → Shared → Prop} (ht : IsTup s.heap t items) (hs : s.heap.IsSliceOf sl .none .none vs) (ps : IsPart vs (some (-1)))
    (h : Q (.ref s.heap.objs.size) { s with heap := s.heap.push { cls := .type "tuple", data := .seq items.toList.reverse.toArray } })
    (hsz : items.size ≤ sizeLine) : wpAny (model prog w) A (getItem (.ref t) (.ref sl)) Q E s := by
  have htake : sizeOk (.seq items.toList.reverse.toArray) := by
    show items.toList.reverse.toArray.size ≤ sizeLine
    rw [List.size_toArray, List.length_reverse, Array.length_toList]
    exact hsz
  obtain ⟨os, hos, hcs, hds⟩ := id hs
  have hTs : s.TypeIs (.ref sl) "slice" := ⟨os, hos, hcs⟩
  unfold getItem
  try with_reducible refine wpAny_holding ?_
  first | refine wpAny_bind (wpAny_pure ?_) | skip
  refine wpAny_bind (wpAny_sequenceKey ht.typeIs (by decide) ?_)
  refine wpAny_bind (wpAny_callSpecial?_slot (name := Str.ofString "__getitem__") ht.typeIs PyProof.Rows.slot_tuple_getitem
    (wpAny_call_entry PyProof.Rows.slot_tuple_getitem ht.typeIs entry_tuple_getitem ?_ (args_tuple_getitem _ _)))
  show wpAny _ _ (Builtin.Tuple.tupleItemsOf (.ref t) >>= _) _ _ s
  refine wpAny_bind (tupleItemsOf_ ht ?_)
  refine wpAny_bind (wpAny_typeOf hTs ?_)
  rw [if_pos (by decide)]
  refine wpAny_bind (sliceApplied_rev hs ps ?_)
  have hno : ¬ ((((items.size : Int) - 1) == 0 && (-1 : Int) == 1 && items.size == items.size) = true) := by
    intro q
    rw [Bool.and_eq_true, Bool.and_eq_true] at q
    exact absurd q.1.2 (by decide)
  show wpAny _ _ (if (((items.size : Int) - 1) == 0 && (-1 : Int) == 1 && items.size == items.size) = true then _ else _) _ _ s
  rw [if_neg hno, pick_rev]
  first
    | exact wpAny_bind (m := Builtin.Tuple.tupleExact _) (wpAny_newObj_type (wpAny_pure ⟨_, rfl, wpAny_pure h⟩) htake)
    | exact wpAny_bind (m := Builtin.Tuple.tupleExact _) (wpAny_newObj_type (wpAny_bind (wpAny_pure (wpAny_pure ⟨_, rfl, wpAny_pure h⟩))) htake)
    | exact wpAny_bind (wpAny_bind (m := Builtin.Tuple.tupleExact _) (wpAny_newObj_type (wpAny_pure (wpAny_pure ⟨_, rfl, wpAny_pure h⟩)) htake))
    | exact wpAny_bind (wpAny_bind (m := Builtin.Tuple.tupleExact _) (wpAny_newObj_type (wpAny_pure ⟨_, rfl, wpAny_pure h⟩) htake))
end
section
variable {X : Cx}
theorem nn_part {v : Value} (h : IsPart v none) : v = .none := by cases h; rfl
def tRevT (K : PySem.W.Frag) (te : TE) : TE := fun σ H Q => te σ H fun x H1 => ∃ a xs, x = .ref a ∧ ((SqL K H1 a xs ∧ ∀ p, H1 p = none → Q (.ref p) (upd H1 p (.lst xs.reverse))) ∨ (SqT K H1 a xs ∧ NewT xs.reverse H1 Q))
theorem pe_revT {e : Expr} {te : TE} {k : Nat} {p1 p2 p3 pos : Pos} (he : PE X e te) : PE X (.Subscript e (.Slice none none (some (.UnaryOp .USub (.Constant (.int 1) k p1) p2)) p3) pos) (tRevT X.K te) := by
  refine ⟨fun pins s σ H Q I h => ?_⟩
  refine Subscript_ (thn (he.run pins s σ H _ I h) fun v s1 ⟨x, H1, I1, r1, q1⟩ => ?_)
  obtain ⟨a, xs, ex, q⟩ := q1
  subst ex
  cases r1
  have hst : PO X (some (.UnaryOp .USub (.Constant (.int 1) k p1) p2)) (tPart (tUn (rU fun i => .int (-i)) (tC (.int 1)))) := po_some (pe_un un_neg pe_int)
  refine wpAny_Slice (thn (po_none.run pins s1 σ H1 (fun o H2 => o = none ∧ H2 = H1) I1 ⟨rfl, rfl⟩) fun vl s2 ⟨l, H2, I2, pl, el, e2⟩ => ?_)
  subst el e2
  refine thn (po_none.run pins s2 σ H2 (fun o H3 => o = none ∧ H3 = H2) I2 ⟨rfl, rfl⟩) fun vu s3 ⟨u, H3, I3, pu, eu, e3⟩ => ?_
  subst eu e3
  refine thn (hst.run pins s3 σ H3 (fun o H4 => o = some (-1) ∧ H4 = H3) I3 ⟨1, rfl, -1, rfl, rfl, rfl⟩) fun vs s4 ⟨o, H4, I4, ps, eo, e4⟩ => ?_
  subst eo e4
  have I5 : Inv X pins σ H4 { s4 with heap := s4.heap.push { cls := .type "slice", data := .fields #[vl, vu, vs] } } := I4.kept (t' := s4.toks) fun b ob q => Heap.get?_push_of_some _ q
  show wpAny (model X.prog X.w) X.A (subscriptTail e (.Slice none none (some (.UnaryOp .USub (.Constant (.int 1) k p1) p2)) p3) (.ref a) (.ref s4.heap.objs.size)) (EP X pins σ Q) X.xe { s4 with heap := s4.heap.push { cls := .type "slice", data := .fields #[vl, vu, vs] } }
  rcases q with ⟨hx, q⟩ | ⟨hx, q⟩
  · obtain ⟨its, r, ht, hz⟩ := I5.list hx
    have hlen := r.length
    refine tail_any (ops := [.ref a, .ref s4.heap.objs.size]) ht.isList.typeIs (PySem.slot_list_getitem.lookup) ?_ (by with_unfolding_all rfl)
    refine wpAny_getItem_list_slice ht.isList (Heap.IsSliceOf.new _ vl vu vs) pl pu ps (by decide) ?_ (by rw [List.size_toArray]; omega)
    rw [PySem.W.krv_pick]
    refine ⟨.ref _, _, I5.laid (t' := s4.toks) (o := .lst xs.reverse) (fun b ob q => Heap.get?_push_of_some _ q) (Nat.le_refl _) ?_, rfl, q _ (I5.hok.fresh (Nat.le_refl _))⟩
    exact ⟨by rw [List.length_reverse]; exact hz, _, 0, r.reverse, Heap.get?_push_size _ rfl⟩
  · obtain ⟨its, r, ht, hz⟩ := I5.tuple hx
    have hlen := r.length
    rw [nn_part pl, nn_part pu] at *
    refine tail_any (ops := [.ref a, .ref s4.heap.objs.size]) ht.typeIs (PyProof.Rows.slot_tuple_getitem.lookup) ?_ (by with_unfolding_all rfl)
    refine getItem_tuple_rev ht (Heap.IsSliceOf.new _ _ _ vs) ps ?_ (by rw [List.size_toArray]; omega)
    exact newT_at (s := { s4 with heap := s4.heap.push { cls := .type "slice", data := .fields #[.none, .none, vs] } }) (tk := s4.toks) I5 r.reverse (by rw [List.length_reverse]; exact hz) (fun b ob q => Heap.get?_push_of_some _ q) (Nat.le_refl _) (Heap.get?_push_size _ rfl) q
end
theorem fm_congr {α β : Type} {f g : α → Option β} : ∀ {l : List α}, (∀ x ∈ l, f x = g x) → l.filterMap f = l.filterMap g
  | [], _ => rfl
  | x :: l, h => by
    rw [List.filterMap_cons, List.filterMap_cons, h x List.mem_cons_self, fm_congr fun y hy => h y (List.mem_cons_of_mem _ hy)]
def evr {α : Type} (k : Nat) (xs : List α) : List α := (List.range ((xs.length - k + 1) / 2)).filterMap fun i => xs[k + 2 * i]?
theorem pick_two (items : Array Value) (k : Nat) (lo : Option Int) (h : lo = none ∧ k = 0 ∨ lo = some (k : Int)) : slicePick items lo none (some 2) = (evr k items.toList).toArray := by
  have e : sliceBounds lo none (some 2) items.size = (((min k items.size : Nat) : Int), (items.size : Int), 2) := by
    rcases h with ⟨h, h2⟩ | h
    · subst h h2
      simp [sliceBounds]
    · subst h
      have h0 : ¬ ((k : Int) < 0) := by omega
      simp only [sliceBounds, Option.getD_some, h0, if_false, show ((2 : Int) > 0) = True from by simp, if_true]
      refine Prod.ext ?_ rfl
      show max (0 : Int) (min (k : Int) (items.size : Int)) = _
      omega
  unfold slicePick evr
  rw [e]
  congr 1
  unfold sliceRange
  simp only [show ((2 : Int) > 0) = True from by simp, if_true]
  have ec : (if ((min k items.size : Nat) : Int) < (items.size : Int) then ((items.size : Int) - ((min k items.size : Nat) : Int) + 2 - 1) / 2 else 0).toNat = (items.toList.length - k + 1) / 2 := by
    rw [Array.length_toList]
    split <;> omega
  rw [ec, List.filterMap_map]
  refine fm_congr fun i hi => ?_
  have := List.mem_range.mp hi
  rw [Array.length_toList] at this
  show items[(((min k items.size : Nat) : Int) + 2 * (i : Int)).toNat]? = items.toList[k + 2 * i]?
  rw [show (((min k items.size : Nat) : Int) + 2 * (i : Int)).toNat = k + 2 * i by omega, Array.getElem?_toList]
theorem vals_evr {xs : List V} {us : List Value} (h : Vals xs us) (k : Nat) : Vals (evr k xs) (evr k us) := by
  have hl := h.length
  unfold evr
  rw [hl]
  induction (List.range ((us.length - k + 1) / 2)) with
  | nil => exact .nil
  | cons i is ih =>
    rw [List.filterMap_cons, List.filterMap_cons]
    by_cases hi : k + 2 * i < us.length
    · obtain ⟨u, h1, h2⟩ := h.get (List.getElem?_eq_getElem (show k + 2 * i < xs.length by omega))
      rw [List.getElem?_eq_getElem (show k + 2 * i < xs.length by omega), h1]
      exact .cons h2 ih
    · rw [List.getElem?_eq_none (by omega), List.getElem?_eq_none (by omega)]
      exact ih
theorem dpa_evr {K : PySem.W.Frag} {F : Hp} {xs : List V} {ds : List D} (h : DqAll K F xs ds) {k : Nat} : DqAll K F (evr k xs) (evr k ds) := by
  have hl := dpa_len h
  unfold evr
  rw [hl]
  induction (List.range ((ds.length - k + 1) / 2)) with
  | nil => exact .nil
  | cons i is ih =>
    rw [List.filterMap_cons, List.filterMap_cons]
    by_cases hi : k + 2 * i < ds.length
    · obtain ⟨v, h1, h2⟩ := dpa_get h (List.getElem?_eq_getElem hi)
      rw [List.getElem?_eq_getElem hi, h1]
      exact .cons h2 ih
    · rw [List.getElem?_eq_none (by omega), List.getElem?_eq_none (by omega)]
      exact ih
theorem evr_le {α : Type} (k : Nat) (xs : List α) : (evr k xs).length ≤ xs.length := by
  unfold evr
  refine Nat.le_trans (List.length_filterMap_le _ _) ?_
  rw [List.length_range]
  omega
section
variable {X : Cx}
def tSt2 (K : PySem.W.Frag) (te : TE) (k : Nat) : TE := fun σ H Q => te σ H fun x H1 => ∃ a xs, x = .ref a ∧ SqL K H1 a xs ∧ ∀ p, H1 p = none → Q (.ref p) (upd H1 p (.lst (evr k xs)))
theorem pe_st2 {e : Expr} {te : TE} {l : Option Expr} {lo : Option Int} {k j : Nat} {p1 p3 pos : Pos} (pl : PO X l (fun σ H R => R lo H)) (hk : lo = none ∧ k = 0 ∨ lo = some (k : Int)) (he : PE X e te) : PE X (.Subscript e (.Slice l none (some (.Constant (.int 2) j p1)) p3) pos) (tSt2 X.K te k) := by
  refine ⟨fun pins s σ H Q I h => ?_⟩
  refine Subscript_ (thn (he.run pins s σ H _ I h) fun v s1 w1 => ?_)
  obtain ⟨x, H1, I1, r1, a, xs, ex, hx, q⟩ := w1
  subst ex
  cases r1
  have hst : PO X (some (.Constant (.int 2) j p1)) (tPart (tC (.int 2))) := po_some pe_int
  refine wpAny_Slice (thn (pl.run pins s1 σ H1 (fun o H2 => o = lo ∧ H2 = H1) I1 ⟨rfl, rfl⟩) fun vl s2 w2 => ?_)
  obtain ⟨l', H2, I2, pl', el, e2⟩ := w2
  subst el e2
  refine thn (po_none.run pins s2 σ H2 (fun o H3 => o = none ∧ H3 = H2) I2 ⟨rfl, rfl⟩) fun vu s3 w3 => ?_
  obtain ⟨u, H3, I3, pu, eu, e3⟩ := w3
  subst eu e3
  refine thn (hst.run pins s3 σ H3 (fun o H4 => o = some 2 ∧ H4 = H3) I3 ⟨2, rfl, rfl, rfl⟩) fun vs s4 w4 => ?_
  obtain ⟨o, H4, I4, ps, eo, e4⟩ := w4
  subst eo e4
  have I5 : Inv X pins σ H4 { s4 with heap := s4.heap.push { cls := .type "slice", data := .fields #[vl, vu, vs] } } := I4.kept (t' := s4.toks) fun b ob q => Heap.get?_push_of_some _ q
  show wpAny (model X.prog X.w) X.A (subscriptTail e (.Slice l none (some (.Constant (.int 2) j p1)) p3) (.ref a) (.ref s4.heap.objs.size)) (EP X pins σ Q) X.xe { s4 with heap := s4.heap.push { cls := .type "slice", data := .fields #[vl, vu, vs] } }
  obtain ⟨its, r, ht, hz⟩ := I5.list hx
  have hlen := r.length
  refine tail_any (ops := [.ref a, .ref s4.heap.objs.size]) ht.isList.typeIs (PySem.slot_list_getitem.lookup) ?_ (by with_unfolding_all rfl)
  refine wpAny_getItem_list_slice ht.isList (Heap.IsSliceOf.new _ vl vu vs) pl' pu ps (by decide) ?_ (by rw [List.size_toArray]; omega)
  rw [pick_two its.toArray k _ hk]
  refine ⟨.ref _, _, I5.laid (t' := s4.toks) (o := .lst (evr k xs)) (fun b ob q => Heap.get?_push_of_some _ q) (Nat.le_refl _) ?_, rfl, q _ (I5.hok.fresh (Nat.le_refl _))⟩
  exact ⟨Nat.le_trans (evr_le k xs) hz, _, 0, vals_evr r k, Heap.get?_push_size _ rfl⟩
end
section
variable {X : Cx}
theorem valGet {xs : List V} {us : List Value} (h : Vals xs us) {i : Nat} {v : Value} (e : us[i]? = some v) : ∃ x, xs[i]? = some x ∧ RelV x v := by
  have hl := h.length
  have hi : i < us.length := (List.getElem?_eq_some_iff.mp e).1
  obtain ⟨u, h1, h2⟩ := h.get (List.getElem?_eq_getElem (show i < xs.length by omega))
  rw [e] at h1
  cases h1
  exact ⟨_, List.getElem?_eq_getElem (by omega), h2⟩
def rBestD (K : PySem.W.Frag) (b : D → List D → D) : List V → Hp → VK → Prop := fun vs H Q => ∃ (a : Addr) (xs : List V) (d : D) (ds : List D), vs = [V.ref a] ∧ (SqL K H a xs ∨ SqT K H a xs) ∧ DpAll K H xs (d :: ds) ∧ PyData.plainAll (d :: ds) = true ∧ PySem.W.AlikeAll (d :: ds) ∧
  PyData.depthAll (d :: ds) ≤ 60 ∧ ∀ (i : Nat) (x : V), xs[i]? = some x → (d :: ds)[i]? = some (b d ds) → Q x H
theorem best_end {pins : List (Addr × Obj)} {s : Shared} {σ : L2.St} {H : Hp} {Q : VK} {xs : List V} {its : List Value} {ds : List D} {m : D} {as bs : List Addr} {i : Nat} {v : Value} {h' : Heap} {tk : Nat} (I : Inv X pins σ H s) (rv : Vals xs its) (rd : ReadsAll s.heap its ds as)
    (pl : PyData.plainAll ds = true) (hv : its.toArray[i]? = some v) (hr : Reads h' v m bs) (hk : ∀ b o, s.heap.get? b = some o → h'.get? b = some o) (q : ∀ x, xs[i]? = some x → ds[i]? = some m → Q x H) : EP X pins σ Q v { s with heap := h', toks := tk } := by
  have hv' : its[i]? = some v := by simpa using hv
  obtain ⟨x, hx, rx⟩ := valGet rv hv'
  obtain ⟨cs, r1, hi, hm, _⟩ := PySem.W.readsAll_atA (vs := its.toArray) (show ReadsAll s.heap its.toArray.toList ds as from rd) i v hv
  have e := PySem.SeqAt.plain_unique _ m v cs bs (PySem.W.plain_mem pl hm) (PySem.W.reads_keeps hk r1) hr
  refine ⟨x, H, I.kept hk, rx, q x hx ?_⟩
  rw [← e, List.getElem?_eq_getElem hi, List.getD_eq_getElem?_getD, List.getElem?_eq_getElem hi] <;> rfl
theorem cr_minD (hc : X.calm = true) (hu : X.A.units + 65 < cLine) : CallR X (.builtin "min") (rBestD X.K PySem.W.minD) := by
  intro pins s σ H vs us Q I r h
  obtain ⟨a, xs, d, ds, rfl, hq, hd, pl, al, dp, q⟩ := h
  obtain ⟨u, rfl, ru⟩ := vals1 r
  obtain rfl : u = Value.ref a := ru
  rcases hq with hq | hq
  · obtain ⟨its, rv, p, hz⟩ := I.list hq
    obtain ⟨as, rd⟩ := Dp.readsAll I (d :: ds) xs its hd rv
    exact PySem.W.min_list_data (I.ok.hd hc) p.isList (show ReadsAll s.heap its.toArray.toList (d :: ds) as from rd) al (by omega) fun i v h' tk bs hv hr hk => best_end I rv rd pl hv hr hk (q i)
  · obtain ⟨its, rv, p, hz⟩ := I.tuple hq
    obtain ⟨as, rd⟩ := Dp.readsAll I (d :: ds) xs its hd rv
    exact PySem.W.min_tuple_data (I.ok.hd hc) p (show ReadsAll s.heap its.toArray.toList (d :: ds) as from rd) al (by omega) fun i v h' tk bs hv hr hk => best_end I rv rd pl hv hr hk (q i)
theorem cr_maxD (hc : X.calm = true) (hu : X.A.units + 65 < cLine) : CallR X (.builtin "max") (rBestD X.K PySem.W.maxD) := by
  intro pins s σ H vs us Q I r h
  obtain ⟨a, xs, d, ds, rfl, hq, hd, pl, al, dp, q⟩ := h
  obtain ⟨u, rfl, ru⟩ := vals1 r
  obtain rfl : u = Value.ref a := ru
  rcases hq with hq | hq
  · obtain ⟨its, rv, p, hz⟩ := I.list hq
    obtain ⟨as, rd⟩ := Dp.readsAll I (d :: ds) xs its hd rv
    exact PySem.W.max_list_data (I.ok.hd hc) p.isList (show ReadsAll s.heap its.toArray.toList (d :: ds) as from rd) al (by omega) fun i v h' tk bs hv hr hk => best_end I rv rd pl hv hr hk (q i)
  · obtain ⟨its, rv, p, hz⟩ := I.tuple hq
    obtain ⟨as, rd⟩ := Dp.readsAll I (d :: ds) xs its hd rv
    exact PySem.W.max_tuple_data (I.ok.hd hc) p (show ReadsAll s.heap its.toArray.toList (d :: ds) as from rd) al (by omega) fun i v h' tk bs hv hr hk => best_end I rv rd pl hv hr hk (q i)
theorem each_zip {S : Value → D → Prop} : ∀ {xs : List V} {us : List Value} {ds : List D}, Vals xs us → PySem.W.EachIs S us ds → PySem.W.EachIs (fun v (b : V × D) => RelV b.1 v ∧ S v b.2) us (xs.zip ds)
  | _, _, _, .nil, .nil => .nil
  | _, _, _, .cons r rs, .cons e es => .cons ⟨r, e⟩ (each_zip rs es)
theorem each_vals {S : Value → V × D → Prop} : ∀ {us : List Value} {zs : List (V × D)}, PySem.W.EachIs (fun v (b : V × D) => RelV b.1 v ∧ S v b) us zs → Vals (zs.map (·.1)) us
  | _, _, .nil => .nil
  | _, _, .cons h t => .cons h.1 (each_vals t)
def rSrtD (K : PySem.W.Frag) : List V → Hp → VK → Prop := fun vs H Q => ∃ (a : Addr) (xs : List V) (ds : List D), vs = [V.ref a] ∧ SqL K H a xs ∧ DpAll K H xs ds ∧ PySem.W.AllAlike ds ∧ PySem.W.Sortable ds ∧ (∀ d ∈ ds, d.depth ≤ 60) ∧
  ∀ zs : List (V × D), zs.Perm (xs.zip ds) → zs.map (·.2) = ds.mergeSort (PySem.W.dataLe false id) → ∀ p, H p = none → Q (.ref p) (upd H p (.lst (zs.map (·.1))))
theorem cr_srtD (hu : X.A.units + 65 < cLine) : CallR X (.builtin "sorted") (rSrtD X.K) := by
  intro pins s σ H vs us Q I r h
  obtain ⟨a, xs, ds, rfl, hq, hd, al, so, dp, q⟩ := h
  obtain ⟨u, rfl, ru⟩ := vals1 r
  obtain rfl : u = Value.ref a := ru
  obtain ⟨its, rv, p, hz⟩ := I.list hq
  obtain ⟨as, rd⟩ := Dp.readsAll I ds xs its hd rv
  have ed : PySem.W.EachIs (fun v (d : D) => ∃ as, Reads s.heap v d as) its ds := by
    have := PySem.W.readsAll_each (enc := fun d : D => d) (bs := ds) (by rw [List.map_id']; exact rd)
    exact this
  have ez := each_zip rv ed
  have l1 := rv.length
  have l2 : its.length = ds.length := PySem.W.EachIs.length ed
  have lz : (xs.zip ds).length = ds.length := by rw [List.length_zip]; omega
  have em : (xs.zip ds).map (·.2) = ds := by rw [List.map_snd_zip]; omega
  refine PySem.W.sorted_data (enc := fun b : V × D => b.2) (bs := xs.zip ds) (R := fun v (b : V × D) => RelV b.1 v ∧ ∃ as, Reads s.heap v b.2 as) p.isList ez (ez.mono fun _ _ z => z.2) (by rw [em]; exact al) (by rw [em]; exact so) (by omega)
    (fun b hb => by have := dp b.2 (by rw [← em]; exact List.mem_map.mpr ⟨b, hb, rfl⟩); omega) fun out hl eo => ?_
  obtain ⟨zs, ezs⟩ : ∃ zs, zs = (xs.zip ds).mergeSort (PySem.W.dataLe false fun b : V × D => b.2) := ⟨_, rfl⟩
  rw [← ezs] at eo
  have pm : zs.Perm (xs.zip ds) := by rw [ezs]; exact List.mergeSort_perm _ _
  have ems : zs.map (·.2) = ds.mergeSort (PySem.W.dataLe false id) := by
    have h := List.map_mergeSort (r := PySem.W.dataLe false fun b : V × D => b.2) (f := fun b : V × D => b.2) (s := PySem.W.dataLe false id) (l := xs.zip ds) (fun _ _ _ _ => rfl)
    rw [ezs]
    exact h.trans (by rw [em])
  obtain ⟨c, hc⟩ := sortedAll_at s.heap its out.toArray
  have hn : H (s.heap.objs.size + 1) = none := I.hok.fresh (Nat.le_succ _)
  refine ⟨.ref (s.heap.objs.size + 1), _, I.laid (t' := s.toks) (o := .lst (zs.map (·.1))) (fun b o e => sortedAll_old e) (Nat.le_succ _) ⟨?_, out, c, each_vals eo, hc⟩, rfl, q zs pm ems _ hn⟩
  rw [List.length_map, pm.length_eq]
  omega
def vIdx (vs : List Vec) (v : Vec) : Nat := vs.findIdx fun u => decide (u = v)
def rTix (K : PySem.W.Frag) : V → List V → Hp → VK → Prop := fun x xs H Q => ∃ (p : Addr) (y : V) (zs : List V) (vs : List Vec) (v : Vec), x = .ref p ∧ xs = [y] ∧ SqT K H p zs ∧ DpAll K H zs (vs.map vD) ∧ Dp K H y (vD v) ∧ v ∈ vs ∧ Q (.int (vIdx vs v : Nat)) H
theorem mt_tix (hu : X.A.units + 65 < cLine) : MtR X "tuple.index" (rTix X.K) := by
  intro pins s σ H x xs v us Q I rx rxs h
  obtain ⟨p, y, zs, vs, v', rfl, rfl, hq, hd, hy, hm, q⟩ := h
  cases rx
  cases rxs with
  | cons ry rt =>
    rename_i uy ut
    cases rt
    obtain ⟨its, rv, ht, hz⟩ := I.tuple hq
    obtain ⟨as, rd⟩ := Dp.readsAll I (vs.map vD) zs its hd rv
    obtain ⟨bs, r1⟩ := Dp.reads I (vD v') y uy hy ry
    refine PySem.W.index_tuple_datum (α := Vec) (x := v') (xs := vs) ht (H := ⟨as, rd⟩) (Hx := ⟨bs, r1⟩) ?_ hm ⟨.int (vIdx vs v' : Nat), H, I.tok _, ⟨s.toks, rfl⟩, q⟩
    show X.A.units + 1 + (max 0 0 + 1) < cLine
    omega
def tLS (K : PySem.W.Frag) (ta : TE) : TE := fun σ H Q => ta σ H fun x H1 => ∃ (l : Addr) (ks : List (Addr × List Int)), x = V.ref l ∧ (SqL K H1 l (refsV ks) ∨ SqT K H1 l (refsV ks)) ∧ (∀ p ∈ ks, SqT K H1 p.1 (p.2.map V.int) ∧ p.2.length = 2) ∧ ks.length ≤ 2047 ∧
  ∀ L : List (Addr × List Int), (∀ q ∈ L, q ∈ ks) → (∀ q ∈ ks, q.2 ∈ L.map (·.2)) → (L.map (·.2)).Nodup → Q (.int (L.length : Nat)) H1
theorem pe_lset {a : Expr} {ta : TE} {p p2 q pos : Pos} (hc : X.calm = true) (hu : X.A.units + 64 < cLine) (hg : Gl X "len") (hm : X.mg "len" = none) (hg2 : Gl X "set") (hm2 : X.mg "set" = none) (ha : PE X a ta)
    (na : starEach [a] X.env = (false, eval a X.env) :: starEach [] X.env := by rfl) : PE X (.Call (.Name "len" p) [.Call (.Name "set" p2) [a] [] q] [] pos) (tLS X.K ta) := by
  refine ⟨fun pins s σ H Q I h => ?_⟩
  refine Call_ (ld_blt I hg hm PySem.boot_len ?_)
  refine PyProof.Rows.callWith_builtin1 (PyProof.Rows.args_cons ?_ rfl) rfl rfl
  refine Call_ (ld_blt I hg2 hm2 PyProof.Rows.boot_set ?_)
  refine PyProof.Rows.callWith_type1 (PyProof.Rows.args_cons (thn (ha.run pins s σ H _ I h) fun v s1 ⟨x, H1, I1, r1, q1⟩ => PyProof.Rows.args_nil ?_) na) na rfl
  obtain ⟨l, ks, rfl, hq, hk, few, q1⟩ := q1
  cases r1
  have tup : ∀ p ∈ ks, IsT X.prog X.w s1.heap p.2 p.1 := fun p hp => I1.isT (hk p hp).1
  suffices fin : ∀ (s2 : Shared) (n : Addr) L es ep t, Inv X pins σ H1 s2 → SG X.prog X.w s2.heap n L es ep t → Got ks ks.length L → wpAny (model X.prog X.w) X.A (call (.builtin "len") [.ref n]) (EP X pins σ Q) X.xe s2 by
    rcases hq with hq | hq
    · obtain ⟨its, rv, pl, hz⟩ := I1.list hq
      exact set_of_list (P := X.prog) (w := X.w) ks (I1.ok.hd hc) pl.isList (by simpa using refs_of_vals rv) tup few (by omega) fun h' tk L es ep t R g k => PyProof.Rows.args_nil (fin _ _ L es ep t (I1.kept k) R g)
    · obtain ⟨its, rv, pl, hz⟩ := I1.tuple hq
      exact set_of_tuple (P := X.prog) (w := X.w) ks (I1.ok.hd hc) pl (by simpa using refs_of_vals rv) tup few (by omega) fun h' tk L es ep t R g k => PyProof.Rows.args_nil (fin _ _ L es ep t (I1.kept k) R g)
  intro s2 n L es ep t I2 R g
  have sub : ∀ p ∈ L, p ∈ ks := fun p hp => List.mem_of_mem_take (g.sub p hp)
  obtain ⟨o, ho, hex, hd⟩ := R.ob
  have sz := rows_len R.rows
  have gl := g.len
  refine call_len_set ho hex hd R.fits (by omega) ⟨.int (L.length : Nat), H1, I2.tok _, ⟨_, by rw [sz]⟩, q1 L sub (fun q hq => ?_) R.nd⟩
  exact g.all q (by rw [List.take_length]; exact hq)
end
theorem srt_zip {K : PySem.W.Frag} {F : Hp} {xs : List V} {ds : List D} (h : DqAll K F xs ds) : ∀ z ∈ xs.zip ds, Dq K F z.1 z.2 := by
  induction ds generalizing xs with
  | nil => cases h; intro z hz; cases hz
  | cons d ds ih =>
    cases h with
    | cons h1 h2 =>
      intro z hz
      rw [List.zip_cons_cons] at hz
      rcases List.mem_cons.mp hz with e | hz
      · rw [e]; exact h1
      · exact ih h2 z hz
theorem dqa_of {K : PySem.W.Frag} {F : Hp} : ∀ {zs : List (V × D)}, (∀ z ∈ zs, Dq K F z.1 z.2) → DqAll K F (zs.map (·.1)) (zs.map (·.2))
  | [], _ => .nil
  | z :: zs, h => .cons (h z List.mem_cons_self) (dqa_of fun y hy => h y (List.mem_cons_of_mem _ hy))
theorem lset_out {ks L : List (Addr × List Int)} {vs : List Vec} (two : ∀ p ∈ ks, p.2.length = 2) (e : ks.map (fun p => prI p.2) = vs) (sub : ∀ q ∈ L, q ∈ ks) (all : ∀ q ∈ ks, q.2 ∈ L.map (·.2)) (nd : (L.map (·.2)).Nodup) :
    (L.map fun p => prI p.2).Nodup ∧ ∀ v, v ∈ (L.map fun p => prI p.2) ↔ v ∈ vs := by
  constructor
  · unfold List.Nodup
    rw [List.pairwise_map]
    refine List.Pairwise.imp_of_mem (fun {q r} hq hr h z => ?_) (List.pairwise_map.mp nd)
    exact h (prI_inj (two q (sub q hq)) (two r (sub r hr)) z)
  · intro v
    rw [← e]
    constructor
    · intro h
      obtain ⟨q, hq, rfl⟩ := List.mem_map.mp h
      exact List.mem_map.mpr ⟨q, sub q hq, rfl⟩
    · intro h
      obtain ⟨q, hq, rfl⟩ := List.mem_map.mp h
      obtain ⟨r, hr, e2⟩ := List.mem_map.mp (all q hq)
      exact List.mem_map.mpr ⟨r, hr, by rw [e2]⟩
end DL
end
section
set_option maxRecDepth 100000
set_option maxHeartbeats 4000000
namespace DL
open PySem PySem.Spec PyProof.Rows L2
inductive Tg where
  | nm (i : Nat)
  | tp (is : List Nat)
def Tg.slots : Tg → List Nat
  | .nm i => [i]
  | .tp is => is
inductive Bi where
  | len | abs | max1 | min1 | max2 | min2 | sum1 | all1 | any1 | list1 | tuple1 | int1 | str1
  deriving DecidableEq
mutual
inductive E where
  | v (i : Nat) | non | bl (b : Bool) | int (k : Int) | str (x : Str) | gl (k : Nat)
  | bin (op : Operator) (a b : E)
  | neg (a : E) | not (a : E)
  | cmp (op : CmpOp) (a b : E)
  | chn (op op' : CmpOp) (a b c : E)
  | isN (a : E) | notN (a : E)
  | and (a b : E) | or (a b : E)
  | tup (es : Es) | lst (es : Es)
  | ix (a b : E)
  | sl (a : E) (lo hi : Es)
  | call (f : Nat) (es : Es)
  | bi (b : Bi) (es : Es)
  | isi (a : E) (t : String)
  | lc (elt : E) (tg : Tg) (it : It) (cond : Es) (own : List (Str × Nat))
  | sset (a : E) | rvs (a : E) | isB (b neg : Bool) (a : E)
  | srt (a : E) | best (mx : Bool) (a : E) | tix (a b : E) | lset (a : E) | st2 (k : Nat) (a : E) | lrg (a : E) | spl (a b : E) | sfd (ix : Bool) (a b : E) | jn (a b : E)
  | lzip (a b : E) | lrvd (a : E) | lix (a b : E)
inductive Es where
  | nil
  | cons (e : E) (es : Es)
inductive It where
  | ex (e : E)
  | rng1 (a : E)
  | rng2 (a b : E)
  | rng3 (a b : E) (c : Nat)
  | enu (e : E)
  | zip (a b : E)
  | rvd (e : E)
end
def glD : Nat → D
  | 0 => .str "0123456789"
  | 1 => .int 600
  | 2 => .tuple [.int 0, .int 0, .int 1]
  | 3 => .tuple [.int 1, .int 1]
  | 4 => .tuple [.int 0, .int 1]
  | 5 => .str "abcdefghijklmnopqrstuvwxyz"
  | 6 => .int 12
  | 7 => .int 12
  | 8 => .int 12
  | 9 => .int 1000000000
  | 10 => .int 8
  | 11 => .tuple [.int 0, .int 1]
  | 12 => .tuple [.int 1, .int 1]
  | 13 => .tuple [.int 0, .int 0, .int 1]
  | 14 => .tuple [.int 0, .int 1]
  | 15 => .tuple [.int 1, .int 1]
  | 16 => .tuple [.int 0, .int 0, .int 1]
  | 17 => .tuple [.int 0, .int 0, .int 1]
  | _ => .none
abbrev DSp := List D → (R → Prop) → (Nat → Prop) → Prop
def wVar (ρ : En) (i : Nat) (Q : R → Prop) : Prop := match ρ[i]? with
  | some (some (.d x)) => Q (.d x)
  | some (some (.l ds _)) => Q (.l ds false)
  | _ => False
def wLen (r : R) (Q : R → Prop) : Prop := match look r with
  | .list ds => Q (.d (.int ds.length))
  | .tuple ds => Q (.d (.int ds.length))
  | .str z => z.length ≤ sizeLine ∧ Q (.d (.int z.length))
  | _ => False
def w1 (f : R → (R → Prop) → Prop) : List R → (R → Prop) → Prop
  | [r], Q => f r Q
  | _, _ => False
def w2 (f : R → R → (R → Prop) → Prop) : List R → (R → Prop) → Prop
  | [r, s], Q => f r s Q
  | _, _ => False
def wAbs (r : R) (Q : R → Prop) : Prop := match r with
  | .d (.int i) => Q (.d (.int (if i < 0 then -i else i)))
  | _ => False
def wMax1 (r : R) (Q : R → Prop) : Prop := ∃ ns : List Int, look r = .list (ns.map .int) ∧ 0 < ns.length ∧ ∀ m, m ∈ ns → (∀ y, y ∈ ns → y ≤ m) → Q (.d (.int m))
def wMin1 (r : R) (Q : R → Prop) : Prop := ∃ ns : List Int, look r = .list (ns.map .int) ∧ 0 < ns.length ∧ ∀ m, m ∈ ns → (∀ y, y ∈ ns → m ≤ y) → Q (.d (.int m))
def wII (f : Int → Int → Int) (r s : R) (Q : R → Prop) : Prop := match r, s with
  | .d (.int i), .d (.int j) => Q (.d (.int (f i j)))
  | _, _ => False
def wSum1 (r : R) (Q : R → Prop) : Prop := ∃ ns : List Int, look r = .list (ns.map .int) ∧ Q (.d (.int ns.sum))
def wAll1 (r : R) (Q : R → Prop) : Prop := ∃ bs : List Bool, look r = .list (bs.map .bool) ∧ Q (.d (.bool (bs.all id)))
def wAny1 (r : R) (Q : R → Prop) : Prop := ∃ bs : List Bool, look r = .list (bs.map .bool) ∧ Q (.d (.bool (bs.any id)))
def wList1 (r : R) (Q : R → Prop) : Prop := match look r with
  | .list ds => Q (.l ds true)
  | .tuple ds => Q (.l ds true)
  | _ => False
def wTup1 (r : R) (Q : R → Prop) : Prop := match look r with
  | .list ds => Q (.d (.tuple ds))
  | .tuple ds => Q (.d (.tuple ds))
  | _ => False
def wInt1 (r : R) (Q : R → Prop) : Prop := match r with
  | .d (.int i) => Q (.d (.int i))
  | .d (.bool b) => Q (.d (.int (if b then 1 else 0)))
  | .d (.str z) => ∃ n, PySem.intText? z = some n ∧ z.length ≤ 640 ∧ Q (.d (.int n))
  | _ => False
def wStr1 (r : R) (Q : R → Prop) : Prop := match r with
  | .d (.int i) => i.natAbs.log2 < 1920 ∧ Q (.d (.str (toString i)))
  | _ => False
def wBi (b : Bi) : List R → (R → Prop) → Prop := match b with
  | .len => w1 wLen
  | .abs => w1 wAbs
  | .max1 => w1 wMax1
  | .min1 => w1 wMin1
  | .max2 => w2 (wII fun i j => if j > i then j else i)
  | .min2 => w2 (wII fun i j => if j < i then j else i)
  | .sum1 => w1 wSum1
  | .all1 => w1 wAll1
  | .any1 => w1 wAny1
  | .list1 => w1 wList1
  | .tuple1 => w1 wTup1
  | .int1 => w1 wInt1
  | .str1 => w1 wStr1
def wSset (r : R) (Q : R → Prop) : Prop := ∃ vs : List Vec, (look r = .list (vs.map vD) ∨ look r = .tuple (vs.map vD)) ∧ vs.length ≤ 2047 ∧ ∀ ws : List Vec, ws.Pairwise vLt → (∀ v, v ∈ ws ↔ v ∈ vs) → Q (.l (ws.map vD) true)
def wRvs (r : R) (Q : R → Prop) : Prop := match look r with
  | .list ds => Q (.l ds.reverse true)
  | .tuple ds => Q (.d (.tuple ds.reverse))
  | _ => False
def tupOk (r : R) : Prop := ∃ (d : D) (ds : List D), look r = .tuple (d :: ds) ∧ isTp d = true
def strOk (r : R) : Prop := ∃ z : Str, look r = .str z
def wSrt (r : R) (Q : R → Prop) : Prop := ∃ ds : List D, look r = .list ds ∧ PySem.W.AllAlike ds ∧ PySem.W.Sortable ds ∧ (∀ d ∈ ds, d.depth ≤ 60) ∧ Q (.l (ds.mergeSort (PySem.W.dataLe false id)) true)
def wBest (mx : Bool) (r : R) (Q : R → Prop) : Prop := ∃ (d : D) (ds : List D), (look r = .list (d :: ds) ∨ look r = .tuple (d :: ds)) ∧ PySem.W.AlikeAll (d :: ds) ∧ PyData.depthAll (d :: ds) ≤ 60 ∧ Q (.d (if mx then PySem.W.maxD d ds else PySem.W.minD d ds))
def wTix (r s : R) (Q : R → Prop) : Prop := ∃ (vs : List Vec) (v : Vec), look r = .tuple (vs.map vD) ∧ look s = vD v ∧ v ∈ vs ∧ Q (.d (.int (vIdx vs v : Nat)))
def wLset (r : R) (Q : R → Prop) : Prop := ∃ vs : List Vec, (look r = .list (vs.map vD) ∨ look r = .tuple (vs.map vD)) ∧ vs.length ≤ 2047 ∧ ∀ ws : List Vec, ws.Nodup → (∀ v, v ∈ ws ↔ v ∈ vs) → Q (.d (.int (ws.length : Nat)))
def wSt2 (k : Nat) (r : R) (Q : R → Prop) : Prop := match look r with
  | .list ds => Q (.l (evr (k - 1) ds) true)
  | _ => False
def wLrg (r : R) (Q : R → Prop) : Prop := match r with
  | .d (.int j) => j ≤ sizeLine ∧ -(2 ^ 62) ≤ j ∧ Q (.l ((List.range j.toNat).map fun (k : Nat) => .int (k : Int)) true)
  | _ => False
def wSfd (ix : Bool) (r s : R) (Q : R → Prop) : Prop := match r, s with
  | .d (.str a), .d (.str b) => (ix = true → 0 ≤ Txt.find a b) ∧ Q (.d (.int (Txt.find a b)))
  | _, _ => False
def wSpl (r s : R) (Q : R → Prop) : Prop := match r, s with
  | .d (.str a), .d (.str b) => (b.length == 0) = false ∧ a.length + 2 ≤ sizeLine ∧ Q (.l ((Txt.split a b).map .str) true)
  | _, _ => False
def wJn (r s : R) (Q : R → Prop) : Prop := match r with
  | .d (.str a) => ∃ ys : List Str, (look s = .list (ys.map .str) ∨ look s = .tuple (ys.map .str)) ∧ (ys.map (·.length)).sum + ys.length * a.length ≤ 16777216 ∧ Q (.d (.str (Txt.join a ys)))
  | _ => False
def wLix (r s : R) (Q : R → Prop) : Prop := ∃ (ds : List D) (j : Nat) (z : D), look r = .list ds ∧ SeqAt.shaped (.list ds) = true ∧ SeqAt.shaped (look s) = true ∧ ds[j]? = some z ∧ PyData.eqv z (look s) = true ∧
  (∀ (m : Nat) (z' : D), m < j → ds[m]? = some z' → PyData.eqv z' (look s) = false) ∧ Q (.d (.int (j : Nat)))
def rngC (lo c : Int) (n : Nat) : List D := (List.range n).map fun (k : Nat) => .int (lo + k * c)
def wIsB (b neg : Bool) (r : R) (Q : R → Prop) : Prop := match r with
  | .d (.bool c) => Q (.d (.bool (neg != decide (c = b))))
  | _ => False
def tyD : D → String
  | .none => "NoneType"
  | .bool _ => "bool"
  | .int _ => "int"
  | .str _ => "str"
  | .list _ => "list"
  | .tuple _ => "tuple"
  | .dict _ => "dict"
def isiB (d : D) (t : String) : Bool := (kitB (tyD d) t).getD false
def isiOk (d : D) (t : String) : Prop := kitB (tyD d) t ≠ none
def setAll : En → List Nat → List D → Option En
  | ρ, [], [] => some ρ
  | ρ, i :: is, d :: ds => setAll (ρ.set i (some (.d d))) is ds
  | _, _, _ => none
def stT (t : Tg) (d : D) (ρ : En) (k : En → Prop) : Prop := match t with
  | .nm i => k (ρ.set i (some (.d d)))
  | .tp is => (match d with
    | .tuple ds => (match setAll ρ is ds with
      | some ρ' => k ρ'
      | none => False)
    | _ => False)
structure wIf (k : Bool) (a b : Prop) : Prop where
  t : k = true → a
  f : k = false → b
theorem wIf_t {a b : Prop} (h : wIf true a b) : a := h.1 rfl
theorem wIf_f {a b : Prop} (h : wIf false a b) : b := h.2 rfl
def lcLoop (st : D → En → (En → Prop) → Prop) (tt : En → (Bool → Prop) → Prop) (el : En → (R → Prop) → Prop) (ρ : En) : List D → List D → (R → Prop) → Prop
  | [], acc, Q => Q (.l acc true)
  | d :: ds, acc, Q => st d ρ fun ρ2 => tt ρ2 fun b => wIf b (el ρ2 fun r => frzP r fun y => lcLoop st tt el ρ ds (acc ++ [y]) Q) (lcLoop st tt el ρ ds acc Q)
def borR (r : R) : Bool := match r with
  | .l _ false => true
  | _ => false
def rngD (lo : Int) (n : Nat) : List D := (List.range n).map fun (k : Nat) => .int (lo + k)
def enumD (ds : List D) : List D := (List.range ds.length).zipWith (fun (k : Nat) d => .tuple [.int k, d]) ds
def zipD (ds es : List D) : List D := ds.zipWith (fun d e => .tuple [d, e]) es
def wZip (r s : R) (Q : List D → Bool → Prop) : Prop := match look r, look s with
  | .list ds, .list es => Q (zipD ds es) (borR r || borR s)
  | .tuple ds, .tuple es => Q (zipD ds es) false
  | .list ds, .tuple es => Q (zipD ds es) (borR r || borR s)
  | .tuple ds, .list es => Q (zipD ds es) (borR r || borR s)
  | _, _ => False
theorem bor_tup {r : R} {ds : List D} (e : look r = .tuple ds) : borR r = false := by
  cases r with
  | d x => rfl
  | l es fr => cases e
def strD (z : Str) : List D := z.cps.toList.map fun c => .str ⟨#[c]⟩
mutual
def wE (G : Nat → DSp) : E → En → (Nat → Prop) → (R → Prop) → Prop
  | .v i, ρ, X, Q => wVar ρ i Q
  | .non, ρ, X, Q => Q (.d .none)
  | .bl b, ρ, X, Q => Q (.d (.bool b))
  | .int k, ρ, X, Q => Q (.d (.int k))
  | .str x, ρ, X, Q => Q (.d (.str x))
  | .gl k, ρ, X, Q => Q (.d (glD k))
  | .bin op a b, ρ, X, Q => wE G a ρ X fun r => wE G b ρ X fun s => wBin op r s Q
  | .neg a, ρ, X, Q => wE G a ρ X fun r => wNeg r Q
  | .not a, ρ, X, Q => wE G a ρ X fun r => wTru r fun b => Q (.d (.bool (!b)))
  | .cmp op a b, ρ, X, Q => wE G a ρ X fun r => wE G b ρ X fun s => wCmp op r s Q
  | .chn op op' a b c, ρ, X, Q => wE G a ρ X fun r => wE G b ρ X fun s => wCmp op r s fun t => wTru t fun k => wIf k (wE G c ρ X fun u => wCmp op' s u Q) (Q (.d (.bool false)))
  | .isN a, ρ, X, Q => wE G a ρ X fun r => Q (.d (.bool (isNone (look r))))
  | .notN a, ρ, X, Q => wE G a ρ X fun r => Q (.d (.bool (!isNone (look r))))
  | .and a b, ρ, X, Q => wE G a ρ X fun r => wTru r fun k => wIf k (wE G b ρ X Q) (Q (.d (.bool false)))
  | .or a b, ρ, X, Q => wE G a ρ X fun r => wTru r fun k => wIf k (Q (.d (.bool true))) (wE G b ρ X Q)
  | .tup es, ρ, X, Q => wEs G es ρ X fun rs => wArgs rs fun ds => ds.length ≤ sizeLine ∧ Q (.d (.tuple ds))
  | .lst es, ρ, X, Q => wEs G es ρ X fun rs => wArgs rs fun ds => ds.length ≤ sizeLine ∧ Q (.l ds true)
  | .ix a b, ρ, X, Q => wE G a ρ X fun r => wE G b ρ X fun s => wIx r s Q
  | .sl a lo hi, ρ, X, Q => wE G a ρ X fun r => wO G lo ρ X fun l => wO G hi ρ X fun h => wSl r l h Q
  | .call f es, ρ, X, Q => wEs G es ρ X fun rs => wArgs rs fun ds => G f ds Q X
  | .bi b es, ρ, X, Q => wEs G es ρ X fun rs => wBi b rs Q
  | .isi a t, ρ, X, Q => wE G a ρ X fun r => isiOk (look r) t ∧ Q (.d (.bool (isiB (look r) t)))
  | .lc elt tg it cond own, ρ, X, Q => wI G it ρ X fun ds _ => lcLoop (stT tg) (fun ρ2 k => wCond G cond ρ2 k) (fun ρ2 k => wE G elt ρ2 (fun _ => False) k) (wip ρ (own.map (·.2))) ds [] Q
  | .sset a, ρ, X, Q => wE G a ρ X fun r => wSset r Q
  | .rvs a, ρ, X, Q => wE G a ρ X fun r => wRvs r Q
  | .isB b neg a, ρ, X, Q => wE G a ρ X fun r => wIsB b neg r Q
  | .srt a, ρ, X, Q => wE G a ρ X fun r => wSrt r Q
  | .best mx a, ρ, X, Q => wE G a ρ X fun r => wBest mx r Q
  | .tix a b, ρ, X, Q => wE G a ρ X fun r => tupOk r ∧ wE G b ρ X fun s => wTix r s Q
  | .lset a, ρ, X, Q => wE G a ρ X fun r => wLset r Q
  | .st2 k a, ρ, X, Q => wE G a ρ X fun r => wSt2 k r Q
  | .lrg a, ρ, X, Q => wE G a ρ X fun r => wLrg r Q
  | .sfd ix a b, ρ, X, Q => wE G a ρ X fun r => strOk r ∧ wE G b ρ X fun s => wSfd ix r s Q
  | .spl a b, ρ, X, Q => wE G a ρ X fun r => strOk r ∧ wE G b ρ X fun s => wSpl r s Q
  | .jn a b, ρ, X, Q => wE G a ρ X fun r => strOk r ∧ wE G b ρ X fun s => wJn r s Q
  | .lzip a b, ρ, X, Q => wE G a ρ X fun r => wE G b ρ X fun s => wZip r s fun ds _ => Q (.l ds true)
  | .lrvd a, ρ, X, Q => wE G a ρ X fun r => match look r with
    | .list ds => Q (.l ds.reverse true)
    | _ => False
  | .lix a b, ρ, X, Q => wE G a ρ X fun r => (∃ ds, look r = .list ds) ∧ wE G b ρ X fun s => wLix r s Q
def wEs (G : Nat → DSp) : Es → En → (Nat → Prop) → (List R → Prop) → Prop
  | .nil, ρ, X, Q => Q []
  | .cons e es, ρ, X, Q => wE G e ρ X fun r => wEs G es ρ X fun rs => Q (r :: rs)
def wO (G : Nat → DSp) : Es → En → (Nat → Prop) → (Option Int → Prop) → Prop
  | .nil, ρ, X, Q => Q none
  | .cons e _, ρ, X, Q => wE G e ρ X fun r => match r with
    | .d (.int i) => Q (some i)
    | _ => False
def wCond (G : Nat → DSp) : Es → En → (Bool → Prop) → Prop
  | .nil, ρ, Q => Q true
  | .cons e _, ρ, Q => wE G e ρ (fun _ => False) fun r => wTru r Q
def wI (G : Nat → DSp) : It → En → (Nat → Prop) → (List D → Bool → Prop) → Prop
  | .ex e, ρ, X, Q => wE G e ρ X fun r => match look r with
    | .list ds => Q ds (borR r)
    | .tuple ds => Q ds false
    | .str z => z.length ≤ sizeLine ∧ Q (strD z) false
    | _ => False
  | .rng1 a, ρ, X, Q => wE G a ρ X fun r => match r with
    | .d (.int j) => j ≤ sizeLine ∧ -(2 ^ 62) ≤ j ∧ Q (rngD 0 j.toNat) false
    | _ => False
  | .rng2 a b, ρ, X, Q => wE G a ρ X fun r => wE G b ρ X fun s => match r, s with
    | .d (.int i), .d (.int j) => j - i ≤ sizeLine ∧ (-(2 ^ 62) ≤ i ∧ i < 2 ^ 62 ∧ -(2 ^ 62) ≤ j ∧ j < 2 ^ 62) ∧ Q (rngD i (j - i).toNat) false
    | _, _ => False
  | .rng3 a b c, ρ, X, Q => wE G a ρ X fun r => wE G b ρ X fun s => match r, s with
    | .d (.int i), .d (.int j) => 0 < c ∧ c < 1000000 ∧ j - i ≤ sizeLine ∧ (-(2 ^ 62) ≤ i ∧ i < 2 ^ 61 ∧ -(2 ^ 62) ≤ j ∧ j < 2 ^ 61) ∧ Q (rngC i c ((j - i + c - 1) / c).toNat) false
    | _, _ => False
  | .enu e, ρ, X, Q => wE G e ρ X fun r => match look r with
    | .list ds => Q (enumD ds) (borR r)
    | .tuple ds => Q (enumD ds) false
    | _ => False
  | .zip a b, ρ, X, Q => wE G a ρ X fun r => wE G b ρ X fun s => wZip r s Q
  | .rvd e, ρ, X, Q => wE G e ρ X fun r => match look r with
    | .list ds => Q ds.reverse (borR r)
    | .tuple ds => Q ds.reverse false
    | _ => False
end
structure Tb where
  fn : Nat → Str
  xc : Nat → Str
  gl : Nat → Str
  gls : List Nat
  fns : List Nat
  xcs : List Nat
  xks : List Nat := []
def bname : Bi → String
  | .len => "len" | .abs => "abs" | .max1 => "max" | .min1 => "min" | .max2 => "max" | .min2 => "min" | .sum1 => "sum" | .all1 => "all" | .any1 => "any"
  | .list1 => "list" | .tuple1 => "tuple" | .int1 => "int" | .str1 => "str"
def bIsTy : Bi → Bool
  | .list1 => true | .tuple1 => true | .int1 => true | .str1 => true | _ => false
def isLoc (k : Option NameKind) : Bool := match k with
  | some .local => true
  | some .cell => true
  | _ => false
def isVis (k : Option NameKind) : Bool := match k with
  | some .local => true
  | some .cell => true
  | some .free => true
  | _ => false
def isGlb (k : Option NameKind) : Bool := match k with
  | some .globalImplicit => true
  | _ => false
def ckN (N : List Str) (i : Nat) (x : Str) : Bool := decide (N[i]? = some x)
def dbg (x : Str) : Bool := !(x == ("__debug__" : Str)) && !(x == ("__classdict__" : Str))
def ckV (N : List Str) (sc : Scope) (i : Nat) (x : Str) : Bool := ckN N i x && isVis (sc.names.lookup x) && dbg x
def ckG (sc : Scope) (y x : Str) : Bool := decide (x = y) && isGlb (sc.names.lookup x) && dbg x
def plainO (e : Expr) : Bool := match e with
  | .Call (.Name _ _) [] _ _ => false
  | .Starred _ _ => false
  | .Slice _ _ _ _ => false
  | _ => true
def plainX (e : Expr) : Bool := match e with
  | .Starred _ _ => false
  | .Slice _ _ _ _ => false
  | .ListComp _ _ _ _ => true
  | .SetComp _ _ _ _ => false
  | .DictComp _ _ _ _ _ => false
  | .Set _ _ _ => false
  | _ => true
def ckT (N : List Str) (sc : Scope) (ok : List Nat) (t : Tg) (e : Expr) : Bool := match t with
  | .nm i => (match e with
    | .Name x _ => ckN N i x && isLoc (sc.names.lookup x) && ok.contains i
    | _ => false)
  | .tp is => (match e with
    | .Tuple es _ _ => decide (es.length = is.length) && (es.zip is).all fun p => match p.1 with
      | .Name x _ => ckN N p.2 x && isLoc (sc.names.lookup x) && ok.contains p.2
      | _ => false
    | _ => false)
mutual
def ckE (T : Tb) (N : List Str) (cm : Bool) (sc : Scope) : E → Expr → Bool
  | .v i, x => (match x with
    | .Name x _ => ckV N sc i x
    | _ => false)
  | .non, x => (match x with
    | .Constant .none _ _ => true
    | _ => false)
  | .bl b, x => (match x with
    | .Constant (.bool c) _ _ => b == c
    | _ => false)
  | .int k, x => (match x with
    | .Constant (.int c) _ _ => decide (k = c)
    | _ => false)
  | .str k, x => (match x with
    | .Constant (.str c) _ _ => decide (k = c)
    | _ => false)
  | .gl k, x => (match x with
    | .Name x _ => T.gls.contains k && ckG sc (T.gl k) x
    | _ => false)
  | .bin op a b, x => (match x with
    | .BinOp p o q _ => decide (op = o) && ckE T N cm sc a p && ckE T N cm sc b q
    | _ => false)
  | .neg a, x => (match x with
    | .UnaryOp .USub p _ => ckE T N cm sc a p
    | _ => false)
  | .not a, x => (match x with
    | .UnaryOp .Not p _ => ckE T N cm sc a p
    | _ => false)
  | .cmp op a b, x => (match x with
    | .Compare p [o] [q] _ => decide (op = o) && plainX q && ckE T N cm sc a p && ckE T N cm sc b q
    | _ => false)
  | .chn op op' a b c, x => (match x with
    | .Compare p [o, o'] [q, r] _ => decide (op = o) && decide (op' = o') && plainX q && plainX r && ckE T N cm sc a p && ckE T N cm sc b q && ckE T N cm sc c r
    | _ => false)
  | .isN a, x => (match x with
    | .Compare p [.Is] [.Constant .none _ _] _ => ckE T N cm sc a p
    | _ => false)
  | .notN a, x => (match x with
    | .Compare p [.IsNot] [.Constant .none _ _] _ => ckE T N cm sc a p
    | _ => false)
  | .and a b, x => (match x with
    | .BoolOp .And (p :: q :: r) ps => ckE T N cm sc a p && (match r with
      | [] => ckE T N cm sc b q
      | _ => ckE T N cm sc b (.BoolOp .And (q :: r) ps))
    | _ => false)
  | .or a b, x => (match x with
    | .BoolOp .Or (p :: q :: r) ps => ckE T N cm sc a p && (match r with
      | [] => ckE T N cm sc b q
      | _ => ckE T N cm sc b (.BoolOp .Or (q :: r) ps))
    | _ => false)
  | .tup es, x => (match x with
    | .Tuple xs _ _ => ckEs T N cm sc es xs
    | _ => false)
  | .lst es, x => (match x with
    | .List xs _ => ckEs T N cm sc es xs
    | _ => false)
  | .ix a b, x => (match x with
    | .Subscript p q _ => plainX q && ckE T N cm sc a p && ckE T N cm sc b q
    | _ => false)
  | .sl a lo hi, x => (match x with
    | .Subscript p (.Slice l h none _) _ => ckE T N cm sc a p && ckO T N cm sc lo l && ckO T N cm sc hi h
    | _ => false)
  | .call f es, x => (match x with
    | .Call (.Name y _) (p :: ps) [] _ => cm && T.fns.contains f && ckG sc (T.fn f) y && ckEs T N cm sc es (p :: ps)
    | _ => false)
  | .bi b es, x => (match x with
    | .Call (.Name y _) (p :: ps) [] _ => cm && ckG sc (bname b) y && ckEs T N cm sc es (p :: ps)
    | _ => false)
  | .isi a t, x => (match x with
    | .Call (.Name y _) [p, .Name z _] [] _ => ckG sc "isinstance" y && plainX p && ckE T N cm sc a p && ckG sc t z && ["int", "bool", "str", "tuple", "list"].contains t
    | _ => false)
  | .lc elt tg it cond own, x => (match x with
    | .ListComp e [⟨t, i, ifs, 0⟩] scope _ => cm && ckIt T N cm sc it t i && blkC N sc scope own && ckT N scope (own.map (·.2)) tg t && ckE T N cm (relS scope sc) elt e && ckCond T N cm (relS scope sc) cond ifs
    | _ => false)
  | .sset a, x => (match x with
    | .Call (.Name y _) [.Call (.Name z _) [p] [] _] [] _ => cm && ckG sc "sorted" y && ckG sc "set" z && plainX p && ckE T N cm sc a p
    | _ => false)
  | .rvs a, x => (match x with
    | .Subscript p (.Slice none none (some (.UnaryOp .USub (.Constant (.int c) _ _) _)) _) _ => decide (c = 1) && ckE T N cm sc a p
    | _ => false)
  | .isB b neg a, x => (match x with
    | .Compare p [o] [.Constant (.bool c) _ _] _ => decide (c = b) && decide (o = if neg then .IsNot else .Is) && ckE T N cm sc a p
    | _ => false)
  | .srt a, x => (match x with
    | .Call (.Name y _) [p] [] _ => cm && ckG sc "sorted" y && plainX p && ckE T N cm sc a p
    | _ => false)
  | .best mx a, x => (match x with
    | .Call (.Name y _) [p] [] _ => cm && ckG sc (if mx then "max" else "min") y && plainX p && ckE T N cm sc a p
    | _ => false)
  | .tix a b, x => (match x with
    | .Call (.Attribute o name apos) [p] [] cp => decide (name = "index") && (apos.endLine == cp.line) && plainO o && plainX p && ckE T N cm sc a o && ckE T N cm sc b p
    | _ => false)
  | .lset a, x => (match x with
    | .Call (.Name y _) [.Call (.Name z _) [p] [] _] [] _ => cm && ckG sc "len" y && ckG sc "set" z && plainX p && ckE T N cm sc a p
    | _ => false)
  | .st2 k a, x => (match x with
    | .Subscript p (.Slice l none (some (.Constant (.int c) _ _)) _) _ => decide (c = 2) && (match l with
      | none => decide (k = 0)
      | some (.Constant (.int d) _ _) => decide (1 ≤ k) && decide (d = ((k - 1 : Nat) : Int))
      | _ => false) && ckE T N cm sc a p
    | _ => false)
  | .lrg a, x => (match x with
    | .Call (.Name y _) [.Call (.Name z _) [p] [] _] [] _ => cm && ckG sc "list" y && ckG sc "range" z && plainX p && ckE T N cm sc a p
    | _ => false)
  | .sfd ix a b, x => (match x with
    | .Call (.Attribute o name apos) [p] [] cp => decide (name = if ix then "index" else "find") && (apos.endLine == cp.line) && plainO o && plainX p && ckE T N cm sc a o && ckE T N cm sc b p
    | _ => false)
  | .spl a b, x => (match x with
    | .Call (.Attribute o name apos) [p] [] cp => decide (name = "split") && (apos.endLine == cp.line) && plainO o && plainX p && ckE T N cm sc a o && ckE T N cm sc b p
    | _ => false)
  | .jn a b, x => (match x with
    | .Call (.Attribute o name apos) [p] [] cp => decide (name = "join") && (apos.endLine == cp.line) && plainO o && plainX p && ckE T N cm sc a o && ckE T N cm sc b p
    | _ => false)
  | .lzip a b, x => (match x with
    | .Call (.Name y _) [.Call (.Name z _) [p, q] [] _] [] _ => cm && ckG sc "list" y && ckG sc "zip" z && plainX p && plainX q && ckE T N cm sc a p && ckE T N cm sc b q
    | _ => false)
  | .lrvd a, x => (match x with
    | .Call (.Name y _) [.Call (.Name z _) [p] [] _] [] _ => cm && ckG sc "list" y && ckG sc "reversed" z && plainX p && ckE T N cm sc a p
    | _ => false)
  | .lix a b, x => (match x with
    | .Call (.Attribute o name apos) [p] [] cp => decide (name = "index") && (apos.endLine == cp.line) && plainO o && plainX p && ckE T N cm sc a o && ckE T N cm sc b p
    | _ => false)
def ckEs (T : Tb) (N : List Str) (cm : Bool) (sc : Scope) : Es → List Expr → Bool
  | .nil, x => (match x with
    | [] => true
    | _ => false)
  | .cons e es, x => (match x with
    | p :: ps => plainX p && ckE T N cm sc e p && ckEs T N cm sc es ps
    | _ => false)
def ckO (T : Tb) (N : List Str) (cm : Bool) (sc : Scope) : Es → Option Expr → Bool
  | .nil, x => (match x with
    | none => true
    | _ => false)
  | .cons e es, x => (match x with
    | some p => ckE T N cm sc e p
    | _ => false)
def ckCond (T : Tb) (N : List Str) (cm : Bool) (sc : Scope) : Es → List Expr → Bool
  | .nil, x => (match x with
    | [] => true
    | _ => false)
  | .cons e es, x => (match x with
    | [p] => ckE T N cm sc e p
    | _ => false)
def ckIt (T : Tb) (N : List Str) (cm : Bool) (sc : Scope) : It → Expr → Expr → Bool
  | .ex e, t, x => plainX x && ckE T N cm sc e x
  | .rng1 a, t, x => (match x with
    | .Call (.Name y _) [p] [] _ => ckG sc "range" y && plainX p && ckE T N cm sc a p
    | _ => false)
  | .rng2 a b, t, x => (match x with
    | .Call (.Name y _) [p, q] [] _ => ckG sc "range" y && plainX p && plainX q && ckE T N cm sc a p && ckE T N cm sc b q
    | _ => false)
  | .rng3 a b c, t, x => (match x with
    | .Call (.Name y _) [p, q, .Constant (.int k) _ _] [] _ => ckG sc "range" y && decide (k = ((c : Nat) : Int)) && plainX p && plainX q && ckE T N cm sc a p && ckE T N cm sc b q
    | _ => false)
  | .enu e, t, x => (match x, t with
    | .Call (.Name y _) [p] [] _, .Tuple _ _ _ => ckG sc "enumerate" y && plainX p && ckE T N cm sc e p
    | _, _ => false)
  | .zip a b, t, x => (match x, t with
    | .Call (.Name y _) [p, q] [] _, .Tuple _ _ _ => ckG sc "zip" y && plainX p && plainX q && ckE T N cm sc a p && ckE T N cm sc b q
    | _, _ => false)
  | .rvd e, t, x => (match x with
    | .Call (.Name y _) [p] [] _ => ckG sc "reversed" y && plainX p && ckE T N cm sc e p
    | _ => false)
end
end DL
end
section
set_option maxRecDepth 100000
set_option maxHeartbeats 4000000
namespace DL
open PySem PySem.Spec PyProof.Rows L2
def clsV (K : PySem.W.Frag) (T : Tb) (c : Nat) : Value := .ref (He.ga K (T.xc c))
def lift (K : PySem.W.Frag) (T : Tb) (sp : DSp) : Sp := fun vs H Q E => ∃ (F : Hp) (ds : List D) (P : R → Prop) (PE : Nat → Prop), Same F H ∧ DqAll K F vs ds ∧ sp ds P PE ∧
  (∀ r v F' H', P r → Step F H F' H' → Same F' H' → RV K H F' H' r v → Q v H') ∧ ∀ c F' H', PE c → Step F H F' H' → Same F' H' → E (clsV K T c) none H'
structure FnT (T : Tb) (G : Nat → DSp) (n : Nat) (X : Cx) (f : Nat) : Prop where
  ex : ∃ (k : Nat) (a : Addr) (fd : FuncData) (ps : List Str), k ≤ n ∧ FnOk X.prog X.w X.K X.mg X.base (L2.CX X.prog X.w) k a fd ps (lift X.K T (G f)) ∧ X.mg (T.fn f) = some (.ref a) ∧ PySem.W.keepIn X.K (.ref a) = true ∧ Binds X.K fd ps []
structure GX (T : Tb) (G : Nat → DSp) (n : Nat) (cm : Bool) (W : WX) (X : Cx) : Prop where
  room : cm = true → Room n X.A
  calm : cm = true → X.calm = true
  hu : X.A.units + 200 < cLine
  fns : ∀ f ∈ T.fns, FnT T G n X f
  gl : ∀ k ∈ T.gls, ∃ u v, X.mg (T.gl k) = some u ∧ RelV v u ∧ Dq X.K (fun _ => none) v (glD k)
  bi : ∀ b : Bi, X.mg (bname b) = none
  bo : ∀ x ∈ ["isinstance", "range", "enumerate", "zip", "reversed", "int", "bool", "str", "tuple", "list", "sorted", "set"], X.mg (Str.ofString x) = none
  tk : Takes X W
  nd : X.N.Nodup
structure SX (K : PySem.W.Frag) (T : Tb) (W : WX) (F0 H0 F : Hp) (ρ : En) (σ : L2.St) (H : Hp) (Ex : Nat → Prop) : Prop where
  sr : SR K F0 H0 F ρ σ H
  ex : ∀ c F' H', Ex c → Step F H F' H' → Same F' H' → W (clsV K T c) none σ H'
theorem SX.step {K : PySem.W.Frag} {T : Tb} {W : WX} {F0 H0 F H F' H' : Hp} {ρ : En} {σ : L2.St} {Ex : Nat → Prop} (x : SX K T W F0 H0 F ρ σ H Ex) (s : Step F H F' H') (fh : Same F' H') : SX K T W F0 H0 F' ρ σ H' Ex :=
  ⟨x.sr.step s fh, fun c F2 H2 hc s2 f2 => x.ex c F2 H2 hc (s.trans s2) f2⟩
def tE (K : PySem.W.Frag) (T : Tb) (W : WX) (w : En → (Nat → Prop) → (R → Prop) → Prop) : TE := fun σ H Q =>
  ∃ (F0 H0 F : Hp) (ρ : En) (Ex : Nat → Prop) (P : R → Prop), SX K T W F0 H0 F ρ σ H Ex ∧ w ρ Ex P ∧ ∀ r v F' H', P r → Step F H F' H' → Same F' H' → RV K H F' H' r v → Q v H'
def RVs (K : PySem.W.Frag) (B F H : Hp) : List R → List V → Prop
  | [], vs => vs = []
  | r :: rs, vs => ∃ x xs, vs = x :: xs ∧ RV K B F H r x ∧ RVs K B F H rs xs
def tA (K : PySem.W.Frag) (T : Tb) (W : WX) (w : En → (Nat → Prop) → (List R → Prop) → Prop) : TA := fun σ H Q =>
  ∃ (F0 H0 F : Hp) (ρ : En) (Ex : Nat → Prop) (P : List R → Prop), SX K T W F0 H0 F ρ σ H Ex ∧ w ρ Ex P ∧ ∀ rs vs F' H', P rs → Step F H F' H' → Same F' H' → RVs K H F' H' rs vs → Q vs H'
def tOO (K : PySem.W.Frag) (T : Tb) (W : WX) (w : En → (Nat → Prop) → (Option Int → Prop) → Prop) : TO := fun σ H Q =>
  ∃ (F0 H0 F : Hp) (ρ : En) (Ex : Nat → Prop) (P : Option Int → Prop), SX K T W F0 H0 F ρ σ H Ex ∧ w ρ Ex P ∧ ∀ o F' H', P o → Step F H F' H' → Same F' H' → Q o H'
def JSeq (K : PySem.W.Frag) (J : L2.It) (b : Bool) (F H : Hp) (ds : List D) : Prop := ∀ F2 H2, Same F F2 → Same F2 H2 → (b = true → Same H H2) →
  (∀ i d, ds[i]? = some d → J.go i H2 ∧ ∀ x H3, J.yld i H2 x H3 → ∃ F3, Step F2 H2 F3 H3 ∧ Same F3 H3 ∧ Dq K F3 x d) ∧ J.stop ds.length H2
def tI (K : PySem.W.Frag) (T : Tb) (W : WX) (w : En → (Nat → Prop) → (List D → Bool → Prop) → Prop) : TI := fun σ H Q =>
  ∃ (F0 H0 F : Hp) (ρ : En) (Ex : Nat → Prop) (P : List D → Bool → Prop), SX K T W F0 H0 F ρ σ H Ex ∧ w ρ Ex P ∧
    ∀ ds b J F' H', P ds b → Step F H F' H' → Same F' H' → JSeq K J b F' H' ds → ds.length ≤ sizeLine → Q J H'
section
variable {X : Cx} {K : PySem.W.Frag} {T : Tb} {W : WX} {F0 H0 F H F' H' B : Hp} {ρ : En} {σ : L2.St} {Ex : Nat → Prop} {Q : VK}
theorem PE.imp {x : Expr} {t t' : TE} (h : PE X x t) (i : ∀ σ H Q, t' σ H Q → t σ H Q) : PE X x t' := ⟨fun pins s σ H Q I q => h.run pins s σ H Q I (i σ H Q q)⟩
theorem PT.imp {x : Expr} {t t' : TT} (h : PT X x t) (i : ∀ σ H Q, t' σ H Q → t σ H Q) : PT X x t' := ⟨fun pins s σ H Q I q => h.run pins s σ H Q I (i σ H Q q)⟩
theorem PW.imp {x : Expr} {t t' : TT} (h : PW X x t) (i : ∀ σ H Q, t' σ H Q → t σ H Q) : PW X x t' := ⟨fun wh pins s σ H Q I q => h.run wh pins s σ H Q I (i σ H Q q)⟩
theorem PA.imp {x : List Expr} {t t' : TA} (h : PA X x t) (i : ∀ σ H Q, t' σ H Q → t σ H Q) : PA X x t' := ⟨fun pos pins s σ H Q I q => h.run pos pins s σ H Q I (i σ H Q q)⟩
theorem PO.imp {x : Option Expr} {t t' : TO} (h : PO X x t) (i : ∀ σ H Q, t' σ H Q → t σ H Q) : PO X x t' := ⟨fun pins s σ H Q I q => h.run pins s σ H Q I (i σ H Q q)⟩
theorem PI.imp {tg x : Expr} {t t' : TI} (h : PI X tg x t) (i : ∀ σ H Q, t' σ H Q → t σ H Q) : PI X tg x t' := ⟨fun pins s σ H Q I q => h.run pins s σ H Q I (i σ H Q q)⟩
theorem tE.mono {w : En → (Nat → Prop) → (R → Prop) → Prop} {Q Q' : VK} (h : tE K T W w σ H Q) (i : ∀ v H, Q v H → Q' v H) : tE K T W w σ H Q' :=
  let ⟨a, b, c, d, e, f, sx, q, z⟩ := h
  ⟨a, b, c, d, e, f, sx, q, fun r v F' H' h1 h2 h3 h4 => i _ _ (z r v F' H' h1 h2 h3 h4)⟩
theorem tA.mono {w : En → (Nat → Prop) → (List R → Prop) → Prop} {Q Q' : List V → Hp → Prop} (h : tA K T W w σ H Q) (i : ∀ v H, Q v H → Q' v H) : tA K T W w σ H Q' :=
  let ⟨a, b, c, d, e, f, sx, q, z⟩ := h
  ⟨a, b, c, d, e, f, sx, q, fun r v F' H' h1 h2 h3 h4 => i _ _ (z r v F' H' h1 h2 h3 h4)⟩
theorem run1 {w : En → (Nat → Prop) → (R → Prop) → Prop} {k : R → Prop} (sx : SX K T W F0 H0 F ρ σ H Ex) (h : w ρ Ex k) :
    tE K T W w σ H (fun x H1 => ∃ F1 r, Step F H F1 H1 ∧ Same F1 H1 ∧ RV K H F1 H1 r x ∧ k r) :=
  ⟨F0, H0, F, ρ, Ex, k, sx, h, fun r v F' H' h1 h2 h3 h4 => ⟨F', r, h2, h3, h4, h1⟩⟩
theorem runA {w : En → (Nat → Prop) → (List R → Prop) → Prop} {k : List R → Prop} (sx : SX K T W F0 H0 F ρ σ H Ex) (h : w ρ Ex k) :
    tA K T W w σ H (fun x H1 => ∃ F1 r, Step F H F1 H1 ∧ Same F1 H1 ∧ RVs K H F1 H1 r x ∧ k r) :=
  ⟨F0, H0, F, ρ, Ex, k, sx, h, fun r v F' H' h1 h2 h3 h4 => ⟨F', r, h2, h3, h4, h1⟩⟩
theorem runO {w : En → (Nat → Prop) → (Option Int → Prop) → Prop} {k : Option Int → Prop} (sx : SX K T W F0 H0 F ρ σ H Ex) (h : w ρ Ex k) :
    tOO K T W w σ H (fun x H1 => ∃ F1, Step F H F1 H1 ∧ Same F1 H1 ∧ k x) :=
  ⟨F0, H0, F, ρ, Ex, k, sx, h, fun r F' H' h1 h2 h3 => ⟨F', h2, h3, h1⟩⟩
theorem tOO.mono {w : En → (Nat → Prop) → (Option Int → Prop) → Prop} {Q Q' : Option Int → Hp → Prop} (h : tOO K T W w σ H Q) (i : ∀ v H, Q v H → Q' v H) : tOO K T W w σ H Q' :=
  let ⟨a, b, c, d, e, f, sx, q, z⟩ := h
  ⟨a, b, c, d, e, f, sx, q, fun r F' H' h1 h2 h3 => i _ _ (z r F' H' h1 h2 h3)⟩
theorem tE_bin {wa wb : En → (Nat → Prop) → (R → Prop) → Prop} {w2 : R → R → (R → Prop) → Prop} (h : tE K T W (fun ρ Ex P => wa ρ Ex fun r => wb ρ Ex fun s => w2 r s P) σ H Q) : tOp (rB K w2) (tE K T W wa) (tE K T W wb) σ H Q := by
  obtain ⟨F0, H0, F, ρ, Ex, P, sx, h, post⟩ := h
  refine (run1 sx h).mono fun x H1 ⟨F1, r, s1, f1, v1, h1⟩ => ?_
  refine (run1 (sx.step s1 f1) h1).mono fun y H2 ⟨F2, s, s2, f2, v2, h2⟩ => ?_
  exact ⟨F2, H, r, s, P, f2, v1.step s2, v2.base s1.h, h2, fun t v F' H' hp s3 f3 v3 => post t v F' H' hp ((s1.trans s2).trans s3) f3 (v3.base (s1.h.trans s2.h))⟩
theorem tE_un {wa : En → (Nat → Prop) → (R → Prop) → Prop} {w2 : R → (R → Prop) → Prop} (h : tE K T W (fun ρ Ex P => wa ρ Ex fun r => w2 r P) σ H Q) : tUn (rU1 K w2) (tE K T W wa) σ H Q := by
  obtain ⟨F0, H0, F, ρ, Ex, P, sx, h, post⟩ := h
  refine (run1 sx h).mono fun x H1 ⟨F1, r, s1, f1, v1, h1⟩ => ?_
  exact ⟨F1, H, r, P, f1, v1, h1, fun t v F' H' hp s3 f3 v3 => post t v F' H' hp (s1.trans s3) f3 (v3.base s1.h)⟩
theorem frz_at {r : R} {v : V} {x : D} (h : RV K B F H r v) (s : Same F F') (fh : Same F' H) (e : DL.frz r = some x) : ∃ F2, Same F' F2 ∧ Same F2 H ∧ Dq K F2 v x ∧ ∀ a, B a ≠ none → F' a = none → F2 a = none := by
  cases r with
  | d y => cases e; exact ⟨F', Same.refl _, fh, dp_mono s h, fun _ _ z => z⟩
  | l ds fr =>
    cases fr with
    | false => cases e
    | true =>
      cases e
      obtain ⟨a, xs, h1, h2, h3, h4, h5⟩ := h
      subst h1
      cases q : F' a with
      | none =>
        refine ⟨upd F' a (.lst xs), same_upd q, upd_le fh h2, .lst (.inl upd_same) (dpa_mono (s.trans (same_upd q)) h3), fun b hb hf => ?_⟩
        have ne : b ≠ a := fun z => by subst z; exact hb (h5 rfl)
        rw [upd_ne ne]; exact hf
      | some o =>
        have e := fh a o q
        rw [h2] at e
        cases e
        exact ⟨F', Same.refl _, fh, .lst (.inl q) (dpa_mono s h3), fun _ _ z => z⟩
theorem frzP_ok {r : R} {v : V} {k : D → Prop} (h : RV K B F H r v) (fh : Same F H) (e : frzP r k) : ∃ F2 x, Same F F2 ∧ Same F2 H ∧ Dq K F2 v x ∧ (∀ a, B a ≠ none → F a = none → F2 a = none) ∧ k x := by
  unfold frzP at e
  cases q : frz r with
  | none => rw [q] at e; exact e.elim
  | some x =>
    rw [q] at e
    obtain ⟨F2, a, b, c, d⟩ := frz_at h (Same.refl _) fh q
    exact ⟨F2, x, a, b, c, d, e⟩
theorem args_at : ∀ {rs : List R} {vs : List V} {k : List D → Prop} {F' : Hp}, RVs K B F H rs vs → Same F F' → Same F' H → wArgs rs k → ∃ F2 ds, Same F' F2 ∧ Same F2 H ∧ DqAll K F2 vs ds ∧ (∀ a, B a ≠ none → F' a = none → F2 a = none) ∧ k ds
  | [], vs, k, F', h, s, fh, w => by
    have e : vs = [] := h
    subst e
    exact ⟨F', [], Same.refl _, fh, .nil, fun _ _ z => z, w⟩
  | r :: rs, vs, k, F', h, s, fh, w => by
    obtain ⟨x, xs, e, h1, h2⟩ := h
    subst e
    unfold wArgs frzP at w
    cases q : frz r with
    | none => rw [q] at w; exact w.elim
    | some d =>
      rw [q] at w
      obtain ⟨F2, a1, b1, c1, d1⟩ := frz_at h1 s fh q
      obtain ⟨F3, ds, a2, b2, c2, d2, e2⟩ := args_at h2 (s.trans a1) b1 w
      exact ⟨F3, d :: ds, a1.trans a2, b2, .cons (dp_mono a2 c1) c2, fun a hb hf => d2 a hb (d1 a hb hf), e2⟩
theorem step_frz {F1 H1 F2 : Hp} (s : Step F H F1 H1) (e : Same F1 F2) (z : ∀ a, H a ≠ none → F1 a = none → F2 a = none) : Step F H F2 H1 :=
  ⟨s.f.trans e, s.h, fun a h1 h2 => z a h1 (s.s a h1 h2)⟩
theorem RVs.step {rs : List R} {vs : List V} (h : RVs K B F H rs vs) (s : Step F H F' H') : RVs K B F' H' rs vs := by
  induction rs generalizing vs with
  | nil => exact h
  | cons r rs ih =>
    obtain ⟨x, xs, e, h1, h2⟩ := h
    exact ⟨x, xs, e, h1.step s, ih h2⟩
theorem RVs.base {B' : Hp} {rs : List R} {vs : List V} (h : RVs K B F H rs vs) (s : Same B' B) : RVs K B' F H rs vs := by
  induction rs generalizing vs with
  | nil => exact h
  | cons r rs ih =>
    obtain ⟨x, xs, e, h1, h2⟩ := h
    exact ⟨x, xs, e, h1.base s, ih h2⟩
def isSpec (x : Expr) : Bool := match x with
  | .UnaryOp .Not _ _ => true
  | .BoolOp _ _ _ => true
  | .IfExp _ _ _ _ => true
  | .Compare _ _ _ _ => true
  | _ => false
def isBO (x : Expr) : Bool := match x with
  | .BoolOp _ _ _ => true
  | _ => false
structure Snd (X : Cx) (x : Expr) (t : TE) : Prop where
  pe : PE X x t
  pt : PT X x (tTest t)
  pw : isBO x = true → PW X x (tTest t)
theorem isTrue_plainE {x : Expr} {env : Env} (h : isSpec x = false) : ∀ whole, isTrue x env whole = (do let v ← whole; standAt x.pos; holding [v] (truthy v)) := by
  cases x <;> first
    | (intro _; rfl)
    | (unfold isSpec at h; cases h)
    | (rename_i op _ _; cases op <;> first | (intro _; rfl) | (unfold isSpec at h; cases h))
theorem isBO_spec {x : Expr} (h : isSpec x = false) : isBO x = false := by
  cases x <;> first | rfl | (unfold isSpec at h; cases h)
theorem Snd.of {x : Expr} {t : TE} (h : PE X x t) (n : isSpec x = false) : Snd X x t :=
  ⟨h, pt_val h (isTrue_plainE n), fun z => by rw [isBO_spec n] at z; cases z⟩
theorem Snd.imp {x : Expr} {t t' : TE} (h : Snd X x t) (i : ∀ σ H Q, t' σ H Q → t σ H Q) : Snd X x t' :=
  ⟨PE.imp h.pe i, PT.imp h.pt fun σ H Q q => i σ H _ q, fun z => PW.imp (h.pw z) fun σ H Q q => i σ H _ q⟩
theorem starNo {e : Expr} {es : List Expr} {env : Env} (h : plainX e = true) : starEach (e :: es) env = (false, eval e env) :: starEach es env := by
  cases e <;> first | rfl | (unfold plainX at h; cases h)
theorem noSwap {e : Expr} {t : Option Expr} {l : Nat} {env : Env} (h : plainX e = true) (n : ∀ a b c d, e ≠ .ListComp a b c d) : swapsWith e t l env = pure false := by
  cases e <;> first | rfl | exact absurd rfl (n _ _ _ _) | (unfold plainX at h; cases h)
theorem noFold {e : Expr} {env : Env} (h : plainX e = true) : ∀ x, foldedSetIterable e env x = pure x := by
  cases e <;> first | (intro _; rfl) | (unfold plainX at h; cases h)
theorem plainIx {e : Expr} (h : plainX e = true) : PlainIx e := by
  cases e <;> first | (intro _ _; rfl) | (unfold plainX at h; cases h)
theorem noMarks {e : Expr} {op : CmpOp} (h : plainX e = true) : behindInMarks op e = false := by
  cases e <;> first | rfl | (unfold plainX at h; cases h)
theorem ba {a b : Bool} (h : (a && b) = true) : a = true ∧ b = true := Bool.and_eq_true_iff.mp h
theorem ckV_ok {N : List Str} {sc : Scope} {i : Nat} {x : Str} (h : ckV N sc i x = true) : N[i]? = some x ∧ (sc.names.lookup x = some .local ∨ sc.names.lookup x = some .cell ∨ sc.names.lookup x = some .free) ∧
    (x == ("__debug__" : Str)) = false ∧ (x == ("__classdict__" : Str)) = false := by
  unfold ckV dbg at h
  obtain ⟨h, h3⟩ := ba h
  obtain ⟨h1, h2⟩ := ba h
  obtain ⟨h4, h5⟩ := ba h3
  refine ⟨of_decide_eq_true h1, ?_, by simpa using h4, by simpa using h5⟩
  cases q : sc.names.lookup x with
  | none => rw [q] at h2; cases h2
  | some k =>
    rw [q] at h2
    cases k <;> first | exact .inl rfl | exact .inr (.inl rfl) | exact .inr (.inr rfl) | cases h2
theorem ckG_ok {sc : Scope} {y x : Str} (h : ckG sc y x = true) : x = y ∧ sc.names.lookup x = some .globalImplicit ∧ (x == ("__debug__" : Str)) = false := by
  unfold ckG dbg at h
  obtain ⟨h, h3⟩ := ba h
  obtain ⟨h1, h2⟩ := ba h
  obtain ⟨h4, h5⟩ := ba h3
  refine ⟨of_decide_eq_true h1, ?_, by simpa using h4⟩
  cases q : sc.names.lookup x with
  | none => rw [q] at h2; cases h2
  | some k =>
    rw [q] at h2
    cases k <;> first | rfl | cases h2
theorem ckEs_plain {T : Tb} {N : List Str} {cm : Bool} {sc : Scope} : ∀ {es : Es} {xs : List Expr}, ckEs T N cm sc es xs = true → ∀ (env : Env) (pos : Pos), (backTo pos (starEach xs env)).any (·.1) = false
  | .nil, [], _, _, _ => rfl
  | .nil, _ :: _, h, _, _ => by unfold ckEs at h; cases h
  | .cons e es, [], h, _, _ => by unfold ckEs at h; cases h
  | .cons e es, x :: xs, h, env, pos => by
    unfold ckEs at h
    obtain ⟨h1, h2⟩ := ba h
    obtain ⟨h3, h4⟩ := ba h1
    rw [starNo h3]
    have ih := ckEs_plain h2 env pos
    unfold backTo at ih ⊢
    rw [List.map_cons, List.any_cons, ih] <;> rfl
end
end DL
end
section
set_option maxRecDepth 100000
set_option maxHeartbeats 4000000
namespace DL
open PySem PySem.Spec PyProof.Rows L2 RZ RT
def rC (K : PySem.W.Frag) (w : List R → (R → Prop) → Prop) : List V → Hp → VK → Prop := fun vs H Q => ∃ (F B : Hp) (rs : List R) (P : R → Prop), Same F H ∧ RVs K B F H rs vs ∧ w rs P ∧
  ∀ t v F' H', P t → Step F H F' H' → Same F' H' → RV K H F' H' t v → Q v H'
section
variable {X : Cx} {K : PySem.W.Frag} {F H B : Hp}
theorem rvs1 {r : R} {vs : List V} (h : RVs K B F H [r] vs) : ∃ x, vs = [x] ∧ RV K B F H r x := by
  obtain ⟨x, xs, e, h1, h2⟩ := h
  have e2 : xs = [] := h2
  subst e2
  exact ⟨x, e, h1⟩
theorem rvs2 {r s : R} {vs : List V} (h : RVs K B F H [r, s] vs) : ∃ x y, vs = [x, y] ∧ RV K B F H r x ∧ RV K B F H s y := by
  obtain ⟨x, xs, e, h1, h2⟩ := h
  obtain ⟨y, e2, h3⟩ := rvs1 h2
  subst e2
  exact ⟨x, y, e, h1, h3⟩
theorem rv_ints {r : R} {x : V} {ns : List Int} (fh : Same F H) (h : RV K B F H r x) (e : look r = .list (ns.map .int)) : ∃ a, x = .ref a ∧ SqL K H a (ns.map V.int) := by
  obtain ⟨a, xs, e1, h1, h2⟩ := rv_list fh h e
  rw [dpa_ints h2] at h1
  exact ⟨a, e1, .inl h1⟩
theorem rv_bls {r : R} {x : V} {ns : List Bool} (fh : Same F H) (h : RV K B F H r x) (e : look r = .list (ns.map .bool)) : ∃ a, x = .ref a ∧ SqL K H a (ns.map V.bl) := by
  obtain ⟨a, xs, e1, h1, h2⟩ := rv_list fh h e
  rw [dpa_bls h2] at h1
  exact ⟨a, e1, .inl h1⟩
theorem w1_inv {w : R → (R → Prop) → Prop} {P : R → Prop} : ∀ {rs : List R}, w1 w rs P → ∃ r, rs = [r] ∧ w r P
  | [], h => False.elim h
  | [r], h => ⟨r, rfl, h⟩
  | _ :: _ :: _, h => False.elim h
theorem w2_inv {w : R → R → (R → Prop) → Prop} {P : R → Prop} : ∀ {rs : List R}, w2 w rs P → ∃ r s, rs = [r, s] ∧ w r s P
  | [], h => False.elim h
  | [_], h => False.elim h
  | [r, s], h => ⟨r, s, rfl, h⟩
  | _ :: _ :: _ :: _, h => False.elim h
theorem call1 {f : Value} {w : R → (R → Prop) → Prop} (h : ∀ (pins : List (Addr × Obj)) (s : Shared) (σ : L2.St) (H : Hp) (x : V) (us : List Value) (Q : VK) (F B : Hp) (r : R) (P : R → Prop), Inv X pins σ H s → Vals [x] us → Same F H → RV X.K B F H r x → w r P →
    (∀ t v F' H', P t → Step F H F' H' → Same F' H' → RV X.K H F' H' t v → Q v H') → wpAny (model X.prog X.w) X.A (call f us) (EP X pins σ Q) X.xe s) : CallR X f (rC X.K (w1 w)) := by
  intro pins s σ H vs us Q I r ⟨F, B, rs, P, fh, vr, hw, post⟩
  obtain ⟨r0, er, hw⟩ := w1_inv hw
  subst er
  obtain ⟨x, e0, vr'⟩ := rvs1 vr
  subst e0
  exact h pins s σ H x us Q F B r0 P I r fh vr' hw post
theorem call2 {f : Value} {w : R → R → (R → Prop) → Prop} (h : ∀ (pins : List (Addr × Obj)) (s : Shared) (σ : L2.St) (H : Hp) (x y : V) (us : List Value) (Q : VK) (F B : Hp) (r r' : R) (P : R → Prop), Inv X pins σ H s → Vals [x, y] us → Same F H → RV X.K B F H r x → RV X.K B F H r' y → w r r' P →
    (∀ t v F' H', P t → Step F H F' H' → Same F' H' → RV X.K H F' H' t v → Q v H') → wpAny (model X.prog X.w) X.A (call f us) (EP X pins σ Q) X.xe s) : CallR X f (rC X.K (w2 w)) := by
  intro pins s σ H vs us Q I r ⟨F, B, rs, P, fh, vr, hw, post⟩
  obtain ⟨r0, r1, er, hw⟩ := w2_inv hw
  subst er
  obtain ⟨x, y, e0, vr1, vr2⟩ := rvs2 vr
  subst e0
  exact h pins s σ H x y us Q F B r0 r1 P I r fh vr1 vr2 hw post
theorem bi_len : CallR X (.builtin "len") (rC X.K (w1 wLen)) := call1 fun pins s σ H x us Q F B r0 P I r fh vr w post => by
  unfold wLen at w
  split at w
  · rename_i ds e
    obtain ⟨a, xs, e1, h1, h2⟩ := rv_list fh vr e
    subst e1
    refine call_len_seq pins s σ H _ us Q I r ⟨a, xs, rfl, .inl (.inl h1), ?_⟩
    rw [dpa_len h2]
    exact post _ _ F H w Step.refl fh (Dq.int _)
  · rename_i ds e
    obtain ⟨a, xs, e1, h1, h2⟩ := rv_tup vr e
    subst e1
    refine call_len_seq pins s σ H _ us Q I r ⟨a, xs, rfl, .inr (SqT.mono fh h1), ?_⟩
    rw [dpa_len h2]
    exact post _ _ F H w Step.refl fh (Dq.int _)
  · rename_i z e
    have e1 := rv_str vr e
    subst e1
    exact call_len_str pins s σ H _ us Q I r ⟨z, rfl, w.1, post _ _ F H w.2 Step.refl fh (Dq.int _)⟩
  · exact w.elim
theorem bi_abs : CallR X (.builtin "abs") (rC X.K (w1 wAbs)) := call1 fun pins s σ H x us Q F B r0 P I r fh vr w post => by
  unfold wAbs at w
  split at w
  · have e := rv_int vr
    subst e
    exact call_abs pins s σ H _ us Q I r ⟨_, rfl, post _ _ F H w Step.refl fh (Dq.int _)⟩
  · exact w.elim
theorem bi_max1 (hc : X.calm = true) : CallR X (.builtin "max") (rC X.K (w1 wMax1)) := call1 fun pins s σ H x us Q F B r0 P I r fh vr w post => by
  obtain ⟨ns, e, hl, w⟩ := w
  obtain ⟨a, e1, h1⟩ := rv_ints fh vr e
  subst e1
  exact cr_max hc pins s σ H _ us Q I r ⟨a, ns, rfl, h1, hl, fun m h2 h3 => post _ _ F H (w m h2 h3) Step.refl fh (Dq.int _)⟩
theorem bi_min1 (hc : X.calm = true) : CallR X (.builtin "min") (rC X.K (w1 wMin1)) := call1 fun pins s σ H x us Q F B r0 P I r fh vr w post => by
  obtain ⟨ns, e, hl, w⟩ := w
  obtain ⟨a, e1, h1⟩ := rv_ints fh vr e
  subst e1
  exact cr_min hc pins s σ H _ us Q I r ⟨a, ns, rfl, h1, hl, fun m h2 h3 => post _ _ F H (w m h2 h3) Step.refl fh (Dq.int _)⟩
theorem bi_sum1 (hc : X.calm = true) : CallR X (.builtin "sum") (rC X.K (w1 wSum1)) := call1 fun pins s σ H x us Q F B r0 P I r fh vr w post => by
  obtain ⟨ns, e, w⟩ := w
  obtain ⟨a, e1, h1⟩ := rv_ints fh vr e
  subst e1
  exact cr_sum hc pins s σ H _ us Q I r ⟨a, ns, rfl, h1, post _ _ F H w Step.refl fh (Dq.int _)⟩
theorem bi_all1 (hc : X.calm = true) : CallR X (.builtin "all") (rC X.K (w1 wAll1)) := call1 fun pins s σ H x us Q F B r0 P I r fh vr w post => by
  obtain ⟨ns, e, w⟩ := w
  obtain ⟨a, e1, h1⟩ := rv_bls fh vr e
  subst e1
  exact cr_all hc pins s σ H _ us Q I r ⟨a, ns, rfl, h1, post _ _ F H w Step.refl fh (Dq.bl _)⟩
theorem bi_any1 (hc : X.calm = true) : CallR X (.builtin "any") (rC X.K (w1 wAny1)) := call1 fun pins s σ H x us Q F B r0 P I r fh vr w post => by
  obtain ⟨ns, e, w⟩ := w
  obtain ⟨a, e1, h1⟩ := rv_bls fh vr e
  subst e1
  exact cr_any hc pins s σ H _ us Q I r ⟨a, ns, rfl, h1, post _ _ F H w Step.refl fh (Dq.bl _)⟩
theorem bi_max2 (hc : X.calm = true) : CallR X (.builtin "max") (rC X.K (w2 (wII fun i j => if j > i then j else i))) := call2 fun pins s σ H x y us Q F B r0 r1 P I r fh vr vr' w post => by
  unfold wII at w
  split at w
  · have e := rv_int vr
    have e' := rv_int vr'
    subst e e'
    exact call_max2 hc pins s σ H _ us Q I r ⟨_, _, rfl, post _ _ F H w Step.refl fh (Dq.int _)⟩
  · exact w.elim
theorem bi_min2 (hc : X.calm = true) : CallR X (.builtin "min") (rC X.K (w2 (wII fun i j => if j < i then j else i))) := call2 fun pins s σ H x y us Q F B r0 r1 P I r fh vr vr' w post => by
  unfold wII at w
  split at w
  · have e := rv_int vr
    have e' := rv_int vr'
    subst e e'
    exact call_min2 hc pins s σ H _ us Q I r ⟨_, _, rfl, post _ _ F H w Step.refl fh (Dq.int _)⟩
  · exact w.elim
theorem bi_list1 : CallR X (.type "list") (rC X.K (w1 wList1)) := call1 fun pins s σ H x us Q F B r0 P I r fh vr w post => by
  unfold wList1 at w
  split at w
  · rename_i ds e
    obtain ⟨a, xs, e1, h1, h2⟩ := rv_list fh vr e
    subst e1
    exact call_list_of pins s σ H _ us Q I r ⟨a, xs, rfl, .inl (.inl h1), fun p hp => post _ _ F _ w (Step.own fh hp) (same_own fh hp) (rv_new fh hp h2)⟩
  · rename_i ds e
    obtain ⟨a, xs, e1, h1, h2⟩ := rv_tup vr e
    subst e1
    exact call_list_of pins s σ H _ us Q I r ⟨a, xs, rfl, .inr (SqT.mono fh h1), fun p hp => post _ _ F _ w (Step.own fh hp) (same_own fh hp) (rv_new fh hp h2)⟩
  · exact w.elim
theorem bi_tup1 : CallR X (.type "tuple") (rC X.K (w1 wTup1)) := call1 fun pins s σ H x us Q F B r0 P I r fh vr w post => by
  unfold wTup1 at w
  split at w
  · rename_i ds e
    obtain ⟨a, xs, e1, h1, h2⟩ := rv_list fh vr e
    subst e1
    exact call_tupX pins s σ H _ us Q I r ⟨a, xs, rfl, .inl ⟨.inl h1, fun p o ho hp => post _ _ _ _ w (Step.new fh hp) (same_new fh) (dq_new fh hp ho h2)⟩⟩
  · rename_i ds e
    obtain ⟨a, xs, e1, h1, hn, h2⟩ := rv_tupN vr e
    subst e1
    exact call_tupX pins s σ H _ us Q I r ⟨a, xs, rfl, .inr ⟨SqT.mono fh h1, post _ _ F H w Step.refl fh (Dq.tup h1 hn h2)⟩⟩
  · exact w.elim
theorem bi_int1 : CallR X (.type "int") (rC X.K (w1 wInt1)) := call1 fun pins s σ H x us Q F B r0 P I r fh vr w post => by
  unfold wInt1 at w
  split at w
  · have e := rv_int vr
    subst e
    exact call_int1 pins s σ H _ us Q I r (.inl ⟨_, rfl, post _ _ F H w Step.refl fh (Dq.int _)⟩)
  · have e := rv_bool vr
    subst e
    exact call_int1 pins s σ H _ us Q I r (.inr ⟨_, rfl, post _ _ F H w Step.refl fh (Dq.int _)⟩)
  · have e := rv_str vr rfl
    subst e
    obtain ⟨n, w1, w2, w3⟩ := w
    exact call_int_str pins s σ H _ us Q I r ⟨_, n, rfl, w1, w2, post _ _ F H w3 Step.refl fh (Dq.int _)⟩
  · exact w.elim
theorem bi_str1 : CallR X (.type "str") (rC X.K (w1 wStr1)) := call1 fun pins s σ H x us Q F B r0 P I r fh vr w post => by
  unfold wStr1 at w
  split at w
  · have e := rv_int vr
    subst e
    exact call_str_int pins s σ H _ us Q I r ⟨_, rfl, w.1, post _ _ F H w.2 Step.refl fh (Dq.str _)⟩
  · exact w.elim
theorem bi_all (b : Bi) (hc : X.calm = true) : (bIsTy b = true ∧ CallR X (.type (bname b)) (rC X.K (wBi b)) ∧ bootBuiltins (Str.ofString (bname b)) = some (.type (bname b))) ∨
    (bIsTy b = false ∧ CallR X (.builtin (bname b)) (rC X.K (wBi b)) ∧ bootBuiltins (Str.ofString (bname b)) = some (.builtin (bname b))) := by
  cases b with
  | len => exact .inr ⟨rfl, bi_len, PySem.boot_len⟩
  | abs => exact .inr ⟨rfl, bi_abs, PyProof.Rows.boot_abs⟩
  | max1 => exact .inr ⟨rfl, bi_max1 hc, PyProof.Rows.boot_max⟩
  | min1 => exact .inr ⟨rfl, bi_min1 hc, PyProof.Rows.boot_min⟩
  | max2 => exact .inr ⟨rfl, bi_max2 hc, PyProof.Rows.boot_max⟩
  | min2 => exact .inr ⟨rfl, bi_min2 hc, PyProof.Rows.boot_min⟩
  | sum1 => exact .inr ⟨rfl, bi_sum1 hc, PyProof.Rows.boot_sum⟩
  | all1 => exact .inr ⟨rfl, bi_all1 hc, PyProof.Rows.boot_all⟩
  | any1 => exact .inr ⟨rfl, bi_any1 hc, PyProof.Rows.boot_any⟩
  | list1 => exact .inl ⟨rfl, bi_list1, PyProof.Rows.boot_list⟩
  | tuple1 => exact .inl ⟨rfl, bi_tup1, PyProof.Rows.boot_tuple⟩
  | int1 => exact .inl ⟨rfl, bi_int1, PyProof.Rows.boot_int⟩
  | str1 => exact .inl ⟨rfl, bi_str1, PyProof.Rows.boot_str⟩
theorem bname_ne (b : Bi) : Str.ofString (bname b) ≠ "__name__" := by cases b <;> decide
theorem pi_seqS {tg l : Expr} {tl : TE} (hl : PE X l tl) : PI X tg l (fun σ H R => tl σ H fun x H1 => (∃ z, x = .str z ∧ R (Its z) H1) ∨ ∃ a, x = .ref a ∧ ((∃ xs, SqL X.K H1 a xs ∧ (xs.length ≤ sizeLine → R (Itl X.K a) H1)) ∨ ∃ xs, SqT X.K H1 a xs ∧ (xs.length ≤ sizeLine → R (Itt X.K a) H1))) := by
  refine ⟨fun pins s σ H R I h => ?_⟩
  refine thn (hl.run pins s σ H _ I h) fun v s1 ⟨x, H1, I1, r1, q1⟩ => ?_
  rcases q1 with ⟨z, e, q⟩ | ⟨a, e, q⟩
  · subst e
    obtain ⟨t, rfl⟩ := r1
    cases ha : z.cps.all (· < 128)
    · exact wpAny_pyIter_wide ha (pi_one (tk := s1.toks) I1 _ (turn_str _ z t "str_iterator" (.inr rfl)) ⟨_, Heap.get?_push_size _ rfl, rfl, rfl⟩ q)
    · exact wpAny_pyIter_ascii ha (pi_one (tk := s1.toks) I1 _ (turn_str _ z t "str_ascii_iterator" (.inl rfl)) ⟨_, Heap.get?_push_size _ rfl, rfl, rfl⟩ q)
  subst e
  cases r1
  rcases q with ⟨xs, hq, q⟩ | ⟨xs, hq, q⟩
  · obtain ⟨its, rv, p, hz⟩ := I1.list hq
    have q := q hz
    refine wpAny_pyIter_list p.isList ?_
    refine ⟨s1.heap.objs.size, [s1.heap.objs.size], _, _, H1, rfl, I1.kept (t' := s1.toks) fun b o e => Heap.get?_push_of_some _ e, turn_list a _, ⟨_, Heap.get?_push_size _ rfl, rfl, rfl⟩, fun b hb => ?_, q⟩
    have e : b = s1.heap.objs.size := by simpa using hb
    subst e
    exact I1.fpOk (Nat.le_refl _) (I1.hok.fresh (Nat.le_refl _))
  · obtain ⟨its, rv, p, hz⟩ := I1.tuple hq
    have q := q hz
    refine wpAny_pyIter_tuple (show s1.heap.IsTuple a its.toArray from p) ?_
    refine ⟨s1.heap.objs.size, [s1.heap.objs.size], _, _, H1, rfl, I1.kept (t' := s1.toks) fun b o e => Heap.get?_push_of_some _ e, turn_tuple a _, ⟨_, Heap.get?_push_size _ rfl, rfl, rfl⟩, fun b hb => ?_, q⟩
    have e : b = s1.heap.objs.size := by simpa using hb
    subst e
    exact I1.fpOk (Nat.le_refl _) (I1.hok.fresh (Nat.le_refl _))
theorem strD_len (z : Str) : (strD z).length = z.length := by unfold strD; rw [List.length_map, Array.length_toList]; rfl
theorem jseq_str {z : Str} : JSeq K (Its z) false F H (strD z) := fun F2 H2 s1 s2 _ => by
  refine ⟨fun i d e => ?_, by show z.cps.size ≤ _; rw [strD_len]; exact Nat.le_refl _⟩
  unfold strD at e
  rw [List.getElem?_map] at e
  cases q : z.cps.toList[i]? with
  | none => rw [q] at e; cases e
  | some c =>
    rw [q] at e
    cases e
    have hi : i < z.cps.size := by simpa using (List.getElem?_eq_some_iff.mp q).1
    refine ⟨hi, fun x H3 y => ?_⟩
    obtain ⟨e1, c', h1, h2⟩ := y
    subst e1 h2
    rw [← Array.getElem?_toList, q] at h1
    cases h1
    exact ⟨F2, Step.refl, s2, Dq.str _⟩
theorem jseq_list {a : Addr} {xs : List V} {ds : List D} (hq : SqL K F a xs) (hd : DqAll K F xs ds) : JSeq K (Itl K a) false F H ds := fun F2 H2 s1 s2 _ => by
  have q2 : SqL K H2 a xs := Same.seq s2 (Same.seq s1 hq)
  refine ⟨fun i d e => ?_, ⟨xs, q2, by rw [dpa_len hd]; exact Nat.le_refl _⟩⟩
  obtain ⟨v, h1, h2⟩ := dpa_get hd e
  refine ⟨⟨xs, v, q2, h1⟩, fun x H3 y => ?_⟩
  obtain ⟨e1, y⟩ := y
  subst e1
  have e2 := y xs q2
  rw [h1] at e2
  cases e2
  exact ⟨F2, Step.refl, s2, dp_mono s1 h2⟩
theorem jseq_listB {a : Addr} {xs : List V} {ds : List D} (hq : H a = some (.lst xs)) (hd : DqAll K F xs ds) : JSeq K (Itl K a) true F H ds := fun F2 H2 s1 s2 s3 => by
  have q2 : SqL K H2 a xs := SqL.of (s3 rfl a _ hq)
  refine ⟨fun i d e => ?_, ⟨xs, q2, by rw [dpa_len hd]; exact Nat.le_refl _⟩⟩
  obtain ⟨v, h1, h2⟩ := dpa_get hd e
  refine ⟨⟨xs, v, q2, h1⟩, fun x H3 y => ?_⟩
  obtain ⟨e1, y⟩ := y
  subst e1
  have e2 := y xs q2
  rw [h1] at e2
  cases e2
  exact ⟨F2, Step.refl, s2, dp_mono s1 h2⟩
theorem jseq_tup {a : Addr} {xs : List V} {ds : List D} (hq : SqT K F a xs) (hd : DqAll K F xs ds) : JSeq K (Itt K a) false F H ds := fun F2 H2 s1 s2 _ => by
  have q2 : SqT K H2 a xs := SqT.mono s2 (SqT.mono s1 hq)
  refine ⟨fun i d e => ?_, ⟨xs, q2, by rw [dpa_len hd]; exact Nat.le_refl _⟩⟩
  obtain ⟨v, h1, h2⟩ := dpa_get hd e
  refine ⟨⟨xs, v, q2, h1⟩, fun x H3 y => ?_⟩
  obtain ⟨e1, y⟩ := y
  subst e1
  have e2 := y xs q2
  rw [h1] at e2
  cases e2
  exact ⟨F2, Step.refl, s2, dp_mono s1 h2⟩
theorem rng_len (lo : Int) (n : Nat) : (rngD lo n).length = n := by simp [rngD]
theorem rngC_len (lo c : Int) (n : Nat) : (rngC lo c n).length = n := by simp [rngC]
theorem jseq_rngC (lo c : Int) (n : Nat) : JSeq K (Itc lo c n) false F H (rngC lo c n) := fun F2 H2 s1 s2 _ => by
  refine ⟨fun i d e => ?_, by show n ≤ _; rw [rngC_len]; exact Nat.le_refl _⟩
  have hi : i < n := by
    have := (List.getElem?_eq_some_iff.mp e).1
    rwa [rngC_len] at this
  have e1 : d = .int (lo + i * c) := by
    unfold rngC at e
    rw [List.getElem?_map, List.getElem?_range hi] at e
    exact (Option.some.inj e).symm
  subst e1
  refine ⟨hi, fun x H3 h => ?_⟩
  obtain ⟨e2, e3⟩ := h
  subst e2 e3
  exact ⟨F2, Step.refl, s2, .int _⟩
theorem cdiv_sz {d : Int} {c : Nat} (h0 : 0 < c) (h : d ≤ (sizeLine : Int)) : ((d + c - 1) / (c : Int)).toNat ≤ sizeLine := by
  have e0 : (0 : Int) < (c : Int) := by omega
  have h1 : (d + c - 1) / (c : Int) < (sizeLine : Int) + 1 := Int.ediv_lt_of_lt_mul e0 (by
    rw [Int.add_mul, Int.one_mul]
    have := Int.mul_le_mul_of_nonneg_left (show (1 : Int) ≤ (c : Int) by omega) (show (0 : Int) ≤ (sizeLine : Int) by omega)
    omega)
  omega
theorem rgC_pos {i j : Int} {c : Nat} (h0 : 0 < c) (h1 : c < 1000000) (b : -(2 ^ 62) ≤ i ∧ i < 2 ^ 61 ∧ -(2 ^ 62) ≤ j ∧ j < 2 ^ 61) : RgC i j (c : Int) ((j - i + c - 1) / c).toNat := by
  have e0 : (0 : Int) < (c : Int) := by omega
  have sz : Builtin.Range.rangeSize i j c = ((j - i + c - 1) / c).toNat := by
    unfold Builtin.Range.rangeSize
    rw [if_pos (by omega)]
    by_cases hh : i < j
    · rw [if_pos hh]
      have e : (j - i + c - 1) / (c : Int) = (j - i - 1) / c + 1 := by
        have : j - i + c - 1 = (j - i - 1) + c * 1 := by omega
        rw [this, Int.add_mul_ediv_left _ _ (by omega)]
      rw [e]
      have := Int.ediv_nonneg (show 0 ≤ j - i - 1 by omega) (show (0 : Int) ≤ c by omega)
      omega
    · rw [if_neg hh]
      have : (j - i + c - 1) / (c : Int) < 1 := Int.ediv_lt_of_lt_mul e0 (by omega)
      omega
  refine ⟨by omega, by omega, ?_, sz⟩
  unfold Builtin.Range.small
  rw [sz]
  have l1 : (j - i + c - 1) / (c : Int) < 2 ^ 63 := Int.ediv_lt_of_lt_mul e0 (by
    have : (2 : Int) ^ 63 * 1 ≤ 2 ^ 63 * c := Int.mul_le_mul_of_nonneg_left (by omega) (by decide)
    omega)
  have p1 : (c : Int) > 0 := e0
  simp only [Builtin.Range.rangeFitsLong, Bool.and_eq_true, Bool.or_eq_true, decide_eq_true_eq, beq_iff_eq]
  simp only [p1, if_true, Bool.and_eq_true, decide_eq_true_eq]
  omega
theorem jseq_rng (lo : Int) (n : Nat) : JSeq K (Itr lo n) false F H (rngD lo n) := fun F2 H2 s1 s2 _ => by
  refine ⟨fun i d e => ?_, by show n ≤ _; rw [rng_len]; exact Nat.le_refl _⟩
  have hi : i < n := by
    have := (List.getElem?_eq_some_iff.mp e).1
    rwa [rng_len] at this
  have e1 : d = .int (lo + i) := by
    unfold rngD at e
    rw [List.getElem?_map, List.getElem?_range hi] at e
    exact (Option.some.inj e).symm
  subst e1
  refine ⟨hi, fun x H3 y => ?_⟩
  obtain ⟨e1, e2⟩ := y
  subst e1 e2
  exact ⟨F2, Step.refl, s2, Dq.int _⟩
theorem jseq_revG {a : Addr} {xs : List V} {ds : List D} {b : Bool} (hd : DqAll K F xs ds) (hq : ∀ F2 H2, Same F F2 → Same F2 H2 → (b = true → Same H H2) → SqL K H2 a xs) : JSeq K (Itv K a xs.length) b F H ds.reverse := fun F2 H2 s1 s2 s3 => by
  have q2 : SqL K H2 a xs := hq F2 H2 s1 s2 s3
  have hl := dpa_len hd
  refine ⟨fun i d e => ?_, by show xs.length ≤ _; rw [List.length_reverse, hl]; exact Nat.le_refl _⟩
  have hi : i < ds.length := by
    have := (List.getElem?_eq_some_iff.mp e).1
    rwa [List.length_reverse] at this
  rw [List.getElem?_reverse hi] at e
  obtain ⟨v, h1, h2⟩ := dpa_get hd e
  rw [← hl] at h1
  refine ⟨⟨by omega, xs, v, q2, h1⟩, fun x H3 y => ?_⟩
  obtain ⟨e1, y⟩ := y
  subst e1
  have e2 := y xs q2
  rw [h1] at e2
  cases e2
  exact ⟨F2, Step.refl, s2, dp_mono s1 h2⟩
theorem jseq_revT {a : Addr} {xs : List V} {ds : List D} (hq : SqT K F a xs) (hd : DqAll K F xs ds) : JSeq K (ItvT K a xs.length) false F H ds.reverse := fun F2 H2 s1 s2 _ => by
  have q2 : SqT K H2 a xs := SqT.mono s2 (SqT.mono s1 hq)
  have hl := dpa_len hd
  refine ⟨fun i d e => ?_, by show xs.length ≤ _; rw [List.length_reverse, hl]; exact Nat.le_refl _⟩
  have hi : i < ds.length := by
    have := (List.getElem?_eq_some_iff.mp e).1
    rwa [List.length_reverse] at this
  rw [List.getElem?_reverse hi] at e
  obtain ⟨v, h1, h2⟩ := dpa_get hd e
  rw [← hl] at h1
  refine ⟨⟨by omega, xs, v, q2, h1⟩, fun x H3 y => ?_⟩
  obtain ⟨e1, y⟩ := y
  subst e1
  have e2 := y xs q2
  rw [h1] at e2
  cases e2
  exact ⟨F2, Step.refl, s2, dp_mono s1 h2⟩
theorem pair_new {F H : Hp} {p : Addr} {x y : V} {d e : D} (fh : Same F H) (hp : H p = none) (h1 : Dq K F x d) (h2 : Dq K F y e) (nt : isTp d = false) :
    ∃ F3, Step F H F3 (upd H p (.tup [x, y])) ∧ Same F3 (upd H p (.tup [x, y])) ∧ Dq K F3 (.ref p) (.tuple [d, e]) :=
  ⟨_, Step.new fh hp, same_new fh, Dq.tup (.inl (.inl upd_same)) (fun z => by rw [show hd1 [d, e] = isTp d from rfl, nt] at z; cases z) (dpa_mono (same_upd (Same.free fh hp)) (.cons h1 (.cons h2 .nil)))⟩
theorem enum_get {ds : List D} {i : Nat} {e : D} (h : (enumD ds)[i]? = some e) : ∃ d, ds[i]? = some d ∧ e = .tuple [.int i, d] := by
  unfold enumD at h
  rw [List.getElem?_zipWith] at h
  cases q : ds[i]? with
  | none => rw [q] at h; cases q2 : (List.range ds.length)[i]? <;> rw [q2] at h <;> cases h
  | some d =>
    have hi : i < ds.length := (List.getElem?_eq_some_iff.mp q).1
    rw [q, List.getElem?_range hi] at h
    exact ⟨d, rfl, (Option.some.inj h).symm⟩
theorem enum_len (ds : List D) : (enumD ds).length = ds.length := by simp [enumD]
theorem jseq_enum {a : Addr} {xs : List V} {ds : List D} {b : Bool} (hd : DqAll K F xs ds) (hq : ∀ F2 H2, Same F F2 → Same F2 H2 → (b = true → Same H H2) → SqL K H2 a xs) : JSeq K (Ite K a) b F H (enumD ds) := fun F2 H2 s1 s2 s3 => by
  have q2 : SqL K H2 a xs := hq F2 H2 s1 s2 s3
  refine ⟨fun i e he => ?_, ⟨xs, q2, by rw [dpa_len hd, enum_len]; exact Nat.le_refl _⟩⟩
  obtain ⟨d, e1, e2⟩ := enum_get he
  subst e2
  obtain ⟨v, h1, h2⟩ := dpa_get hd e1
  refine ⟨⟨xs, v, q2, h1⟩, fun x H3 y => ?_⟩
  obtain ⟨p, x', e3, hp, e4, y⟩ := y
  have e5 := y xs q2
  rw [h1] at e5
  cases e5
  subst e3 e4
  exact pair_new s2 hp (Dq.int _) (dp_mono s1 h2) rfl
theorem zip_get {ds es : List D} {i : Nat} {e : D} (h : (zipD ds es)[i]? = some e) : ∃ d d', ds[i]? = some d ∧ es[i]? = some d' ∧ e = .tuple [d, d'] := by
  unfold zipD at h
  rw [List.getElem?_zipWith] at h
  cases q : ds[i]? with
  | none => rw [q] at h; cases h
  | some d =>
    cases q2 : es[i]? with
    | none => rw [q, q2] at h; cases h
    | some d' =>
      rw [q, q2] at h
      exact ⟨d, d', rfl, rfl, (Option.some.inj h).symm⟩
theorem zip_len (ds es : List D) : (zipD ds es).length = min ds.length es.length := by simp [zipD]
theorem jseq_zipS {a a' : Addr} {ta tb : Bool} {xs ys : List V} {ds es : List D} {b : Bool} (hd : DqAll K F xs ds) (he : DqAll K F ys es) (hq : ∀ F2 H2, Same F F2 → Same F2 H2 → (b = true → Same H H2) → SqS K H2 ta a xs ∧ SqS K H2 tb a' ys) : JSeq K (ItzS K ta tb a a') b F H (zipD ds es) := fun F2 H2 s1 s2 s3 => by
  obtain ⟨q2, q3⟩ := hq F2 H2 s1 s2 s3
  refine ⟨fun i e hz => ?_, ⟨xs, ys, q2, q3, by rw [dpa_len hd, dpa_len he, zip_len]⟩⟩
  obtain ⟨d, d', e1, e1', e2⟩ := zip_get hz
  subst e2
  obtain ⟨v, h1, h2⟩ := dpa_get hd e1
  obtain ⟨v', g1, g2⟩ := dpa_get he e1'
  refine ⟨⟨xs, ys, v, v', q2, q3, h1, g1⟩, fun x H3 y => ?_⟩
  obtain ⟨p, x', y', o, e3, hp, ho, e4, y1, y2⟩ := y
  have e5 := y1 xs q2
  have e6 := y2 ys q3
  rw [h1] at e5
  rw [g1] at e6
  cases e5
  cases e6
  subst e3 e4
  exact ⟨_, Step.new s2 hp, same_new s2, dq_new s2 hp ho (.cons (dp_mono s1 h2) (.cons (dp_mono s1 g2) .nil))⟩
end
end DL
end
section
set_option maxRecDepth 100000
set_option maxHeartbeats 4000000
namespace DL
open PySem PySem.Spec PyProof.Rows L2 RZ RT
section
variable {X : Cx} {K : PySem.W.Frag} {T : Tb} {G : Nat → DSp} {W : WX} {F0 H0 F H B : Hp} {ρ : En} {σ : L2.St} {n : Nat} {cm : Bool}
theorem wTru_inv {r : R} {k : Bool → Prop} (h : wTru r k) : ∃ b, r = .d (.bool b) ∧ k b := by
  unfold wTru at h
  split at h
  · exact ⟨_, rfl, h⟩
  · exact h.elim
theorem isNone_rv {r : R} {x : V} (h : RV K B F H r x) : decide (x = V.non) = isNone (look r) := by
  cases r with
  | d d =>
    cases (show Dq K F x d from h) with
    | non => rfl
    | _ => rfl
  | l ds fr =>
    obtain ⟨a, xs, e, _⟩ := h
    subst e
    rfl
theorem Gl_of {x : Str} (h : X.env.scope.names.lookup x = some .globalImplicit) : Gl X x := h
theorem pos_call {T : Tb} {N : List Str} {sc : Scope} {cm : Bool} {es : Es} {x : Expr} {xs : List Expr} (h : ckEs T N cm sc es (x :: xs) = true) (env : Env) (pos : Pos) : plainX x = true ∧ (backTo pos (starEach xs env)).any (·.1) = false := by
  cases es with
  | nil => unfold ckEs at h; cases h
  | cons e es =>
    unfold ckEs at h
    obtain ⟨h1, h2⟩ := ba h
    exact ⟨(ba h1).1, ckEs_plain h2 env pos⟩
theorem ty_ok {t : String} (h : ["int", "bool", "str", "tuple", "list"].contains t = true) : bootBuiltins (Str.ofString t) = some (.type t) ∧ Str.ofString t ≠ "__name__" ∧ Str.ofString t ∈ ["isinstance", "range", "enumerate", "zip", "reversed", "int", "bool", "str", "tuple", "list"].map Str.ofString := by
  have e : t = "int" ∨ t = "bool" ∨ t = "str" ∨ t = "tuple" ∨ t = "list" := by simpa using h
  rcases e with e | e | e | e | e <;> subst e
  · exact ⟨PyProof.Rows.boot_int, by decide, by decide⟩
  · exact ⟨PyProof.Rows.boot_bool, by decide, by decide⟩
  · exact ⟨PyProof.Rows.boot_str, by decide, by decide⟩
  · exact ⟨PyProof.Rows.boot_tuple, by decide, by decide⟩
  · exact ⟨PyProof.Rows.boot_list, by decide, by decide⟩
theorem tyX_of {x : V} {d : D} (h : Dq K H x d) : TyX K H x (.type (tyD d)) := by
  cases h with
  | non => exact .base .non
  | bl b => exact .base (.bl b)
  | int i => exact .base (.int i)
  | str z => exact .base (.str z)
  | lst h1 h2 =>
    rcases h1 with h1 | ⟨o, h1⟩
    · exact .base (.lst h1)
    · exact .base (.frz h1)
  | tup h1 hn h2 =>
    rcases h1 with (h1 | ⟨o, h1⟩) | ⟨o, its, n, h1, h2, h3⟩
    · exact .base (.tup h1)
    · exact .fTuple h1
    · exact .kTuple h1 h2
theorem wipe_set {σ : L2.St} {i : Nat} {v : Option V} : ∀ {vs : List Nat}, i ∈ vs → wipe (σ.set i v) vs = wipe σ vs
  | [], h => by cases h
  | w :: vs, h => by
    unfold wipe
    by_cases e : i ∈ vs
    · rw [wipe_set e]
    · have e2 : i = w := by
        rcases List.mem_cons.mp h with z | z
        · exact z
        · exact absurd z e
      subst e2
      have go : ∀ ws : List Nat, i ∉ ws → wipe (σ.set i v) ws = (wipe σ ws).set i v := by
        intro ws
        induction ws with
        | nil => intro _; rfl
        | cons w ws ih =>
          intro hn
          unfold wipe
          rw [ih fun z => hn (List.mem_cons_of_mem _ z), List.set_comm _ _ (fun z => hn (by rw [z]; exact List.mem_cons_self))]
      rw [go vs e, List.set_set]
def gT (K : PySem.W.Frag) : Tg → TG
  | .nm i => gName i
  | .tp is => gTup K is.length (is.foldr (fun i t => gCons (gName i) t) gNil)
theorem pgs_of {sc : Scope} (g : ∀ x, isLoc (sc.names.lookup x) = true → Loc X.env.scope x ∧ (X.fn x = true ∨ X.env.scope.names.lookup x = some .local)) (nd : X.N.Nodup) {ok : List Nat} : ∀ {is : List Nat} {es : List Expr}, es.length = is.length → ((es.zip is).all fun p => match p.1 with
      | .Name x _ => ckN X.N p.2 x && isLoc (sc.names.lookup x) && ok.contains p.2
      | _ => false) = true → PGs X es (is.foldr (fun i t => gCons (gName i) t) gNil) ∧ (assignEach es X.env).length = is.length ∧ (assignEach es X.env).findIdx? (·.1) = none
  | [], [], _, _ => ⟨pgs_nil, rfl, rfl⟩
  | [], _ :: _, h, _ => by simp at h
  | _ :: _, [], h, _ => by simp at h
  | i :: is, e :: es, h, c => by
    rw [List.zip_cons_cons, List.all_cons] at c
    obtain ⟨c1, c2⟩ := ba c
    obtain ⟨h1, h2, h3⟩ := pgs_of g nd (is := is) (es := es) (by simpa using h) c2
    cases e with
    | Name x pos =>
      have c1 : (ckN X.N i x && isLoc (sc.names.lookup x) && ok.contains i) = true := c1
      obtain ⟨c3, c4⟩ := ba c1
      obtain ⟨c5, c6⟩ := ba c3
      obtain ⟨l1, l2⟩ := g _ c6
      refine ⟨pgs_cons (pg_name nd (of_decide_eq_true c5) l1 l2) h1, ?_, ?_⟩
      · show (_ :: assignEach es X.env).length = _
        rw [List.length_cons, List.length_cons, h2]
      · show ((false, assign (.Name x pos) X.env) :: assignEach es X.env).findIdx? (·.1) = none
        rw [List.findIdx?_cons, h3] <;> rfl
    | _ => cases c1
theorem pg_of {sc : Scope} (g : ∀ x, isLoc (sc.names.lookup x) = true → Loc X.env.scope x ∧ (X.fn x = true ∨ X.env.scope.names.lookup x = some .local)) (nd : X.N.Nodup) (hc : X.calm = true) {ok : List Nat} {t : Tg} {e : Expr} (h : ckT X.N sc ok t e = true) : PG X e (gT X.K t) := by
  cases t with
  | nm i =>
    unfold ckT at h
    cases e with
    | Name x pos =>
      have h : (ckN X.N i x && isLoc (sc.names.lookup x) && ok.contains i) = true := h
      obtain ⟨c3, c4⟩ := ba h
      obtain ⟨c5, c6⟩ := ba c3
      obtain ⟨l1, l2⟩ := g _ c6
      exact pg_name nd (of_decide_eq_true c5) l1 l2
    | _ => cases h
  | tp is =>
    unfold ckT at h
    cases e with
    | Tuple es k pos =>
      obtain ⟨c1, c2⟩ := ba h
      obtain ⟨h1, h2, h3⟩ := pgs_of g nd (of_decide_eq_true c1) c2
      exact pg_tup hc h1 h2 h3
    | _ => cases h
theorem gT_all (sr : SR K F0 H0 F ρ σ H) : ∀ {is : List Nat} {ds : List D} {xs : List V} {ρ' : En} {Q : L2.St → Hp → Prop}, DqAll K F xs ds → setAll ρ is ds = some ρ' → SR K F0 H0 F ρ σ H → (∀ σ', SR K F0 H0 F ρ' σ' H → (∀ vs, (∀ i ∈ is, i ∈ vs) → wipe σ' vs = wipe σ vs) → Q σ' H) →
    (is.foldr (fun i t => gCons (gName i) t) gNil) xs σ H Q := by
  intro is
  induction is generalizing ρ σ with
  | nil =>
    intro ds xs ρ' Q hd e s k
    cases ds with
    | nil =>
      cases hd
      cases e
      exact ⟨rfl, k σ s fun _ _ => rfl⟩
    | cons d ds => cases e
  | cons i is ih =>
    intro ds xs ρ' Q hd e s k
    cases ds with
    | nil => cases e
    | cons d ds =>
      cases hd with
      | cons h1 h2 =>
        rename_i v vs
        refine ⟨v, vs, rfl, ?_⟩
        show (is.foldr (fun i t => gCons (gName i) t) gNil) vs (σ.set i (some v)) H Q
        refine ih (s.setD h1 i) h2 e (s.setD h1 i) fun σ' s' w => k σ' s' fun ws hw => ?_
        rw [w ws fun j hj => hw j (List.mem_cons_of_mem _ hj)]
        exact wipe_set (hw i List.mem_cons_self)
theorem gT_ok (sr : SR K F0 H0 F ρ σ H) {t : Tg} {x : V} {d : D} (hx : Dq K F x d) {k : En → Prop} (h : stT t d ρ k) {Q : L2.St → Hp → Prop}
    (q : ∀ ρ' σ', SR K F0 H0 F ρ' σ' H → k ρ' → (∀ vs, (∀ i ∈ t.slots, i ∈ vs) → wipe σ' vs = wipe σ vs) → Q σ' H) : gT K t x σ H Q := by
  cases t with
  | nm i => exact q _ _ (sr.setD hx i) h fun vs hv => wipe_set (hv i (List.mem_singleton.mpr rfl))
  | tp is =>
    unfold stT at h
    cases hx with
    | tup h1 hn h2 =>
      rename_i a xs ds
      have h : (match setAll ρ is ds with
        | some ρ' => k ρ'
        | none => False) := h
      cases e : setAll ρ is ds with
      | none => rw [e] at h; exact h.elim
      | some ρ' =>
        rw [e] at h
        have hl : ∀ {is : List Nat} {ds : List D} {ρ ρ' : En}, setAll ρ is ds = some ρ' → is.length = ds.length := by
          intro is
          induction is with
          | nil => intro ds ρ ρ' e; cases ds with
            | nil => rfl
            | cons _ _ => cases e
          | cons i is ih => intro ds ρ ρ' e; cases ds with
            | nil => cases e
            | cons d ds => rw [List.length_cons, List.length_cons, ih (ds := ds) e]
        refine ⟨a, xs, rfl, SqT.mono sr.fh h1, by rw [dpa_len h2, hl e], ?_⟩
        exact gT_all sr h2 e sr fun σ' s' w => q ρ' σ' s' h w
    | _ => exact h.elim
theorem ckT_own {N : List Str} {sc : Scope} {ok : List Nat} {t : Tg} {e : Expr} (h : ckT N sc ok t e = true) : ∀ i ∈ t.slots, i ∈ ok := by
  cases t with
  | nm i =>
    unfold ckT at h
    cases e with
    | Name x pos =>
      have h : (ckN N i x && isLoc (sc.names.lookup x) && ok.contains i) = true := h
      intro j hj
      rw [List.mem_singleton.mp hj]
      simpa using (ba h).2
    | _ => cases h
  | tp is =>
    unfold ckT at h
    cases e with
    | Tuple es k pos =>
      obtain ⟨c1, c2⟩ := ba h
      have hl : es.length = is.length := of_decide_eq_true c1
      show ∀ i ∈ is, i ∈ ok
      clear h c1
      induction is generalizing es with
      | nil => intro i hi; cases hi
      | cons j is ih =>
        cases es with
        | nil => simp at hl
        | cons e es =>
          rw [List.zip_cons_cons, List.all_cons] at c2
          obtain ⟨d1, d2⟩ := ba c2
          intro i hi
          rcases List.mem_cons.mp hi with z | z
          · subst z
            cases e with
            | Name x pos =>
              have d1 : (ckN N i x && isLoc (sc.names.lookup x) && ok.contains i) = true := d1
              simpa using (ba d1).2
            | _ => cases d1
          · exact ih (es := es) d2 (by simpa using hl) i z
    | _ => cases h
end
end DL
end
section
set_option maxRecDepth 100000
set_option maxHeartbeats 4000000
namespace DL
open PySem PySem.Spec PyProof.Rows L2 RZ RT
section
variable {X : Cx} {K : PySem.W.Frag} {T : Tb} {G : Nat → DSp} {W : WX} {F0 H0 F H B F1 H1 Fc Hc F' H' : Hp} {ρ : En} {σ : L2.St} {n : Nat} {cm : Bool} {p : Addr} {acc : List V} {accD : List D}
theorem set_same {α : Type} {l : List (Option α)} {i : Nat} (h : ∀ x, l[i]? ≠ some (some x)) : l.set i none = l := by
  apply List.ext_getElem?
  intro j
  by_cases e : i = j
  · subst e
    rw [List.getElem?_set, if_pos rfl]
    cases q : l[i]? with
    | none =>
      have : ¬ i < l.length := fun z => by rw [List.getElem?_eq_getElem z] at q; cases q
      rw [if_neg this]
    | some v =>
      rw [if_pos (List.getElem?_eq_some_iff.mp q).1]
      cases v with
      | none => rfl
      | some x => exact absurd q (h x)
  · rw [List.getElem?_set_ne e]
theorem wipe_wipe (σ : L2.St) (vs : List Nat) : wipe (wipe σ vs) vs = wipe σ vs := by
  have go : ∀ ws : List Nat, (∀ w ∈ ws, w ∈ vs) → wipe (wipe σ vs) ws = wipe σ vs := by
    intro ws
    induction ws with
    | nil => intro _; rfl
    | cons w ws ih =>
      intro h
      show (wipe (wipe σ vs) ws).set w none = _
      rw [ih fun z hz => h z (List.mem_cons_of_mem _ hz)]
      exact set_same fun x z => (wipe_some z).2 (h w List.mem_cons_self)
  exact go vs fun _ h => h
structure LS (K : PySem.W.Frag) (F1 H1 Fc Hc : Hp) (p : Addr) (acc : List V) (accD : List D) : Prop where
  s : Step F1 H1 Fc Hc
  f : Same Fc Hc
  at_ : Hc p = some (.lst acc)
  off : Fc p = none
  d : DqAll K Fc acc accD
theorem LS.step (x : LS K F1 H1 Fc Hc p acc accD) (s : Step Fc Hc F' H') (f : Same F' H') : LS K F1 H1 F' H' p acc accD :=
  ⟨x.s.trans s, f, s.h _ _ x.at_, s.s p (ne_none_of x.at_) x.off, dpa_mono s.f x.d⟩
theorem LS.push (x : LS K F1 H1 Fc Hc p acc accD) (h1 : H1 p = none) {F2 : Hp} {y : V} {d : D} (e : Same Fc F2) (f : Same F2 Hc) (z : ∀ a, H1 a ≠ none → F1 a = none → F2 a = none) (zp : F2 p = none) (hy : Dq K F2 y d) :
    LS K F1 H1 F2 (upd Hc p (.lst (acc ++ [y]))) p (acc ++ [y]) (accD ++ [d]) :=
  ⟨⟨x.s.f.trans e, fun a o q => by rw [upd_ne (ne_of_none q h1)]; exact x.s.h a o q, z⟩, fun a o q => by rw [upd_ne (ne_of_none q zp)]; exact f a o q, upd_same, zp, dpa_app (dpa_mono e x.d) (.cons hy .nil)⟩
abbrev W0 : WX := fun _ _ _ _ => False
def tCd (K : PySem.W.Frag) (T : Tb) (G : Nat → DSp) : Es → TT
  | .nil => tYes
  | .cons e _ => tTest (tE K T W0 (wE G e))
theorem gx_blk (g : GX T G n cm W X) {s : Shared} {H : Hp} {scope : Scope} {C : Addr} {cl : List (Str × Addr)} {fp : List Addr} : GX T G n cm W0 (X.blk s H scope (compEnvC scope cl C X.env) fp) where
  room := g.room
  calm := g.calm
  hu := g.hu
  fns := fun f hf => let ⟨k, a, fd, ps, h1, h2, h3, h4, h5⟩ := (g.fns f hf).ex; ⟨k, a, fd, ps, h1, h2, h3, h4, h5⟩
  gl := g.gl
  bi := g.bi
  bo := g.bo
  tk := takes0
  nd := g.nd
theorem blk_loc {s : Shared} {H : Hp} {scope : Scope} {C : Addr} {cl : List (Str × Addr)} {fp : List Addr} : ∀ x, isLoc (scope.names.lookup x) = true →
    Loc (X.blk s H scope (compEnvC scope cl C X.env) fp).env.scope x ∧ ((X.blk s H scope (compEnvC scope cl C X.env) fp).fn x = true ∨ (X.blk s H scope (compEnvC scope cl C X.env) fp).env.scope.names.lookup x = some .local) := fun x h => by
  cases q : scope.names.lookup x with
  | none => rw [q] at h; cases h
  | some k =>
    rw [q] at h
    cases k with
    | «local» =>
      have e := lookup_relS_keep (sc := X.env.scope) (k := .local) (by decide) q
      exact ⟨.inl e, .inr e⟩
    | cell =>
      have e := lookup_relS_keep (sc := X.env.scope) (k := .cell) (by decide) q
      refine ⟨.inr e, .inl ?_⟩
      show (scope.names.lookup x == some .cell) = true
      rw [q]
      rfl
    | _ => cases h
theorem sLc {elt tg iter : Expr} {ifs : List Expr} {scope : Scope} {own : List (Str × Nat)} {pos : Pos} {e : E} {t : Tg} {it : It} {cd : Es} (g : GX T G n cm W X) (hc : X.calm = true) (hi : PI X tg iter (tI X.K T W (wI G it))) (ok : BlkOk X.N X.env.scope scope own)
    (hg : ∀ (s : Shared) (H : Hp) (C : Addr) (cl : List (Str × Addr)) (fp : List Addr), PG (X.blk s H scope (compEnvC scope cl C X.env) fp) tg (gT X.K t))
    (ht : ∀ (s : Shared) (H : Hp) (C : Addr) (cl : List (Str × Addr)) (fp : List Addr), PTs (X.blk s H scope (compEnvC scope cl C X.env) fp) ifs (tCd X.K T G cd))
    (he : ∀ (s : Shared) (H : Hp) (C : Addr) (cl : List (Str × Addr)) (fp : List Addr), PE (X.blk s H scope (compEnvC scope cl C X.env) fp) elt (tE X.K T W0 (wE G e)))
    (hs : ∀ x, foldedSetIterable iter X.env x = pure x) (ho : ∀ i ∈ t.slots, i ∈ own.map (·.2))
    {σ : L2.St} {H : Hp} {Q : VK} (h : tE X.K T W (wE G (.lc e t it cd own)) σ H Q) : tLc (tI X.K T W (wI G it)) (gT X.K t) (tCd X.K T G cd) (tE X.K T W0 (wE G e)) (own.map (·.2)) σ H Q := by
  obtain ⟨F0, H0, F, ρ, Ex, P, sx, h, post⟩ := h
  unfold wE at h
  refine ⟨F0, H0, F, ρ, Ex, _, sx, h, fun ds b J F1 H1 hl s1 f1 js hz p hp => ?_⟩
  refine ⟨fun i m Hc => m = ds.length - i ∧ i ≤ ds.length ∧ ∃ Fc acc accD, LS X.K F1 H1 Fc Hc p acc accD ∧ acc.length ≤ i ∧ lcLoop (stT t) (fun ρ2 k => wCond G cd ρ2 k) (fun ρ2 k => wE G e ρ2 (fun _ => False) k) (wip ρ (own.map (·.2))) (ds.drop i) accD P,
    ⟨ds.length, by simp, Nat.zero_le _, F1, [], [], ⟨Step.own f1 hp, same_own f1 hp, upd_same, Same.free f1 hp, .nil⟩, Nat.le_refl _, by simpa using hl⟩, ?_⟩
  rintro i m Hc ⟨rfl, hi2, Fc, acc, accD, ls, hal, hw⟩
  have j2 := js Fc Hc ls.s.f ls.f fun _ => ls.s.h
  by_cases hlt : i < ds.length
  · obtain ⟨d, hd⟩ : ∃ d, ds[i]? = some d := ⟨ds[i], List.getElem?_eq_getElem hlt⟩
    obtain ⟨go, yl⟩ := j2.1 i d hd
    have ed : ds.drop i = d :: ds.drop (i + 1) := by
      rw [List.drop_eq_getElem_cons hlt]
      rw [List.getElem?_eq_getElem hlt] at hd
      rw [Option.some.inj hd]
    rw [ed] at hw
    refine .inr ⟨go, fun H' => ∃ Fc acc accD, LS X.K F1 H1 Fc H' p acc accD ∧ acc.length ≤ i + 1 ∧ lcLoop (stT t) (fun ρ2 k => wCond G cd ρ2 k) (fun ρ2 k => wE G e ρ2 (fun _ => False) k) (wip ρ (own.map (·.2))) (ds.drop (i + 1)) accD P,
      fun H' q => ⟨_, by omega, rfl, by omega, q⟩, fun x H3 y => ?_⟩
    obtain ⟨F3, s3, f3, hx⟩ := yl x H3 y
    have ls3 := ls.step s3 f3
    have sr3 : SR X.K F0 H0 F3 (wip ρ (own.map (·.2))) (wipe σ (own.map (·.2))) H3 := ((sx.sr.step s1 f1).step ls3.s f3).wip _
    refine gT_ok sr3 hx hw fun ρ' σ' sr' hw' wv => ⟨by rw [wv _ ho, wipe_wipe], ?_⟩
    have sx' : SX X.K T W0 F0 H0 F3 ρ' σ' H3 (fun _ => False) := ⟨sr', fun _ _ _ z => z.elim⟩
    have fin : ∀ F4 H4, Step F3 H3 F4 H4 → Same F4 H4 → ∀ b : Bool, wIf b (wE G e ρ' (fun _ => False) (fun r => frzP r fun y => lcLoop (stT t) (fun ρ2 k => wCond G cd ρ2 k) (fun ρ2 k => wE G e ρ2 (fun _ => False) k) (wip ρ (own.map (·.2))) (ds.drop (i + 1)) (accD ++ [y]) P))
        (lcLoop (stT t) (fun ρ2 k => wCond G cd ρ2 k) (fun ρ2 k => wE G e ρ2 (fun _ => False) k) (wip ρ (own.map (·.2))) (ds.drop (i + 1)) accD P) →
        (if b = true then tE X.K T W0 (wE G e) σ' H4 (fun y H5 => ∃ acc, H5 p = some (.lst acc) ∧ acc.length < sizeLine ∧ ∃ Fc acc' accD, LS X.K F1 H1 Fc (upd H5 p (.lst (acc ++ [y]))) p acc' accD ∧ acc'.length ≤ i + 1 ∧ lcLoop (stT t) (fun ρ2 k => wCond G cd ρ2 k) (fun ρ2 k => wE G e ρ2 (fun _ => False) k) (wip ρ (own.map (·.2))) (ds.drop (i + 1)) accD P)
        else ∃ Fc acc accD, LS X.K F1 H1 Fc H4 p acc accD ∧ acc.length ≤ i + 1 ∧ lcLoop (stT t) (fun ρ2 k => wCond G cd ρ2 k) (fun ρ2 k => wE G e ρ2 (fun _ => False) k) (wip ρ (own.map (·.2))) (ds.drop (i + 1)) accD P) := fun F4 H4 s4 f4 b hb => by
      have ls4 := ls3.step s4 f4
      cases b with
      | false =>
        have hb := wIf_f hb
        rw [if_neg Bool.false_ne_true]
        exact ⟨F4, acc, accD, ls4, by omega, hb⟩
      | true =>
        have hb := wIf_t hb
        rw [if_pos rfl]
        refine (run1 (sx'.step s4 f4) hb).mono fun y H5 ⟨F5, r, s5, f5, v5, h5⟩ => ?_
        have ls5 := ls4.step s5 f5
        obtain ⟨F6, yd, a1, a2, a3, a4, a5⟩ := frzP_ok v5 f5 h5
        refine ⟨acc, ls5.at_, by omega, F6, acc ++ [y], accD ++ [yd], ls5.push hp a1 a2 (fun a h1 h2 => a4 a (Same.nn ls4.s.h h1) (ls5.s.s a h1 h2)) (a4 p (ne_none_of ls4.at_) ls5.off) a3, by rw [List.length_append]; simp; omega, a5⟩
    cases cd with
    | nil => exact fin F3 H3 Step.refl f3 true (show wIf true _ _ from hw')
    | cons c cs =>
      have hw' : wE G c ρ' (fun _ => False) (fun r => wTru r fun b => wIf b _ _) := hw'
      show tE X.K T W0 (wE G c) σ' H3 _
      refine (run1 sx' hw').mono fun x4 H4 ⟨F4, r, s4, f4, v4, h4⟩ => ?_
      obtain ⟨b, e1, h4⟩ := wTru_inv h4
      subst e1
      exact ⟨b, rv_bool v4, fin F4 H4 s4 f4 b h4⟩
  · have e1 : i = ds.length := by omega
    subst e1
    refine .inl ⟨j2.2, ?_⟩
    rw [List.drop_length] at hw
    exact post (.l accD true) (.ref p) Fc Hc hw (s1.trans ls.s) ls.f ⟨p, acc, rfl, ls.at_, ls.d, ls.off, fun _ => Same.free s1.h hp⟩
end
end DL
end
section
set_option maxRecDepth 100000
set_option maxHeartbeats 4000000
namespace DL
open PySem PySem.Spec PyProof.Rows L2
theorem enum_made {v : Value} {o : Obj} {H : Heap → Prop} (B : Begins v o H) :
    Meets (Builtin.«enumerate.__new__» ⟨[.type "enumerate", v], []⟩) (fun _ R s => H s.heap ∧
      R (.ok (.ret (.ref (s.heap.push o).objs.size))) { s with heap := (s.heap.push o).push { cls := .type "enumerate", data := .fields #[.none, .bool false, .ref s.heap.objs.size, rawInt 0, .none, .none] } }) :=
  .of_wp fun prog w A R s h => by
    obtain ⟨hp, g, d, tk, os⟩ := s
    obtain ⟨h1, h⟩ := h
    have sub := sub_enumerate
    have begin_ : ∀ {A' : Around} {E : Value → Shared → Prop} {Q : Value → Shared → Prop}, Q (.ref hp.objs.size) ⟨hp.push o, g, d, tk, os⟩ → wpAny (model prog w) A' (pyIter v) Q E ⟨hp, g, d, tk, os⟩ :=
      fun q => B.iter prog w _ _ ⟨hp, g, d, tk, os⟩ _ h1 q
    wp_walk using begin_
    refine wpAny_stack_any fun st => wpAny_pure ?_
    split
    · rename_i c _ _ _ _ _
      cases (c == Value.type "enumerate") <;> (wp_walk using begin_; exact ⟨_, rfl, h⟩)
    · wp_walk using begin_
      exact ⟨_, rfl, h⟩
section
variable {prog : Program} {w : World} {A : Around} {E : Value → Shared → Prop} {s : Shared}
theorem enum_call {v : Value} {o : Obj} {H : Heap → Prop} {Q : Value → Shared → Prop} (B : Begins v o H) (h1 : H s.heap)
    (h : ∀ h', IsEnum h' (s.heap.objs.size + 1) s.heap.objs.size 0 .none → h'.get? s.heap.objs.size = some o → (∀ b o, s.heap.get? b = some o → h'.get? b = some o) → Q (.ref (s.heap.objs.size + 1)) { s with heap := h' }) :
    wpAny (model prog w) A (call (.type "enumerate") [v]) Q E s := by
  refine callType_new F.called_enumerate (by decide) (F.typeCall_enumerate_1 _) (F.newCall_enumerate_1 _) (fun obj => F.args_object_init_2 obj _) F.entry_enumerate_new (enum_made B) ⟨h1, ?_⟩
  have sz : (s.heap.push o).objs.size = s.heap.objs.size + 1 := Heap.size_push ..
  have at_ := Heap.get?_push_size (s.heap.push o) (o := { cls := .type "enumerate", data := .fields #[.none, .bool false, .ref s.heap.objs.size, rawInt 0, .none, .none] }) rfl
  show _ ∧ _
  rw [sz] at at_ ⊢
  exact ⟨⟨_, at_, rfl⟩, h _ at_ (Heap.get?_push_of_some _ (Heap.get?_push_size _ B.free)) fun b o x => Heap.get?_push_of_some _ (Heap.get?_push_of_some _ x)⟩
end
def Itet (K : PySem.W.Frag) (a : Addr) : L2.It :=
  ⟨fun i H => ∃ (xs : List V) (x : V), SqT K H a xs ∧ xs[i]? = some x, fun i H v H' => ∃ T x, v = .ref T ∧ H T = none ∧ H' = upd H T (.tup [.int (i : Nat), x]) ∧ ∀ xs, SqT K H a xs → xs[i]? = some x, fun i H => ∃ xs : List V, SqT K H a xs ∧ xs.length ≤ i⟩
theorem enum_apart {h : Heap} {e it a : Addr} {i : Int} {old : Value} {items : Array Value} (x : IsEnum h e it i old) (y : h.IsTuple a items) : e ≠ a := fun z => by
  subst z
  obtain ⟨o, ho, hc, _⟩ := y
  have x : h.get? e = _ := x
  rw [x] at ho
  cases ho
  exact absurd (Value.type.inj hc) (by decide)
theorem turn_enumT {P : Program} {w : World} {K : PySem.W.Frag} {elts : List Expr} {kk : Nat} {tpos : Pos} (a e it : Addr) (ia : a ≠ it) :
    Turn P w K (.Tuple elts kk tpos) (Itet K a) [e, it] e (fun i h => (∃ old, IsEnum h e it ((i : Nat) : Int) old) ∧ h.IsTupleIter it a i ∧ e ≠ it) where
  mem := by simp
  obj := fun i h st b hb => by
    obtain ⟨⟨old, he⟩, ⟨o, ho, hc, hd⟩, _⟩ := st
    rcases List.mem_cons.mp hb with z | z
    · rw [z]; exact ⟨_, he, fun v q => nomatch q⟩
    · rw [List.mem_singleton.mp z]; exact ⟨o, ho, fun v q => by rw [hd] at q; cases q⟩
  keep := fun i h h' st k => let ⟨⟨old, he⟩, hi, ne⟩ := st; ⟨⟨old, k e (by simp) _ he⟩, hi.at fun o q => k it (by simp) o q, ne⟩
  item := by
    intro X hP hw hK hc i pins s σ H E I hf st hg
    subst hP hw hK
    obtain ⟨⟨old, he⟩, hit, ne⟩ := st
    obtain ⟨xs, x, hq, hx⟩ := hg
    obtain ⟨its, rv, p, hz⟩ := I.tuple hq
    have p : s.heap.IsTuple a its.toArray := p
    obtain ⟨u, hu, ru⟩ := rv.get hx
    have lt1 : e < s.heap.objs.size := Heap.lt_size he
    have lt2 : it < s.heap.objs.size := by obtain ⟨_, q, _⟩ := hit; exact Heap.lt_size q
    have hlt : i < its.toArray.size := by
      rw [List.size_toArray]
      exact (List.getElem?_eq_some_iff.mp hu).1
    refine wpAny_pyNext_enum_itemD (Draws.tuple (A := X.A.in1) (I.ok.hd hc) it a ia its.toArray) he ⟨hit, p⟩ hlt ne (by simp only [List.mem_cons, List.not_mem_nil, or_false, not_or]; exact ⟨ne, enum_apart he p⟩) fun x' h' tk hP' ho st' hT hsz hk => ?_
    have ex : x' = u := by
      have e1 : its.toArray[i]? = some u := by simpa using hu
      rw [e1] at hP'
      exact (Option.some.inj hP').symm
    subst ex
    refine ⟨_, rfl, wpAny_letOwnedTupleGo_enum (s := { s with heap := h', toks := tk + 1 }) ho fun h2 he2 sb => ?_⟩
    have hT2 : h2.get? s.heap.objs.size = some { cls := .type "tuple", data := .seq #[.int i tk, x'] } := (sb.2 _ (Nat.ne_of_gt lt1)).trans hT
    have fresh : ObjOk X.prog X.w (upd H s.heap.objs.size (.tup [.int (i : Nat), x])) h2 s.heap.objs.size (.tup [.int (i : Nat), x]) :=
      ⟨by show 2 ≤ sizeLine; decide, [.int i tk, x'], .cons ⟨_, rfl⟩ (.cons ru .nil), ⟨_, hT2, rfl, _, rfl⟩⟩
    have I1 : Inv X pins σ (upd H s.heap.objs.size (.tup [.int (i : Nat), x])) { s with heap := h2, toks := tk + 1 } :=
      I.turnedNew (ch := [e, it]) (fun b ob hb q => (sb.2 b (fun z => hb (by simp [z]))).trans (hk b ob (fun z => hb (by simp [z])) (fun z => hb (by simp [z])) q)) hf (Nat.le_refl _) fresh
    refine ⟨.ref s.heap.objs.size, _, I1, rfl, ⟨_, x, rfl, I.hok.fresh (Nat.le_refl _), rfl, fun ys hy => by rw [I.tuple_inj hy hq]; exact hx⟩, ⟨⟨x', ?_⟩, st'.1.at fun o q => (sb.2 it (Ne.symm ne)).trans q, ne⟩, fun b hb => ?_⟩
    · rw [show ((i + 1 : Nat) : Int) = (i : Int) + 1 by omega]
      exact he2
    · have hb' : b < s.heap.objs.size := by
        rcases List.mem_cons.mp hb with z | z
        · rw [z]; exact lt1
        · rw [List.mem_singleton.mp z]; exact lt2
      rw [upd_ne (Nat.ne_of_lt hb')]
      exact (hf b hb).1
  done := by
    intro X hP hw hK hc i pins s σ H E I hf st hg
    subst hP hw hK
    obtain ⟨⟨old, he⟩, hit, ne⟩ := st
    obtain ⟨xs, hq, hx⟩ := hg
    obtain ⟨its, rv, p, hz⟩ := I.tuple hq
    have p : s.heap.IsTuple a its.toArray := p
    obtain ⟨f0, f1, f2, f3, f4, f5⟩ := hf it (by simp)
    have hl := rv.length
    have hT : s.TypeIs (.ref e) "enumerate" := ⟨_, he, rfl⟩
    unfold pyNext
    refine wpAny_bind (wpAny_attempt (wpAny_callSpecial?_slot (name := Str.ofString "__next__") hT F.slot_enumerate_next (wpAny_call_entry F.slot_enumerate_next hT F.entry_enumerate_next ?_ (F.args_enumerate_next_1 _))))
    refine wpAny_bind (m := field (.ref e) 2) (wpAny_field he rfl (x := .ref it) rfl ?_)
    refine wpAny_bind (wpAny_nextOf_tuple_end (A := X.A.in1) (I.ok.hd hc) hit p (by simp; omega) fun h' y eb hy => ?_)
    obtain ⟨o, ho, hc'⟩ := hy
    refine wpAny_bind (wpAny_isInstance (T := "StopIteration") (b := true) ⟨o, ho, hc'⟩ isSubtype_stop ?_)
    exact wpAny_pure ⟨rfl, I.turned (t' := s.toks) (fun b o hb q => eb b o hb q) f0 f1 f3 f4 f5⟩
  self := fun A i s Q E st h => let ⟨⟨_, he⟩, _⟩ := st; wpAny_pyIter_enum he h
theorem jseq_enumT {K : PySem.W.Frag} {F H : Hp} {a : Addr} {xs : List V} {ds : List D} (hd : DqAll K F xs ds) (hq : SqT K F a xs) : JSeq K (Itet K a) false F H (enumD ds) := fun F2 H2 s1 s2 _ => by
  have q2 : SqT K H2 a xs := SqT.mono s2 (SqT.mono s1 hq)
  refine ⟨fun i e he => ?_, ⟨xs, q2, by rw [dpa_len hd, enum_len]; exact Nat.le_refl _⟩⟩
  obtain ⟨d, e1, rfl⟩ := enum_get he
  obtain ⟨v, h1, h2⟩ := dpa_get hd e1
  refine ⟨⟨xs, v, q2, h1⟩, fun x H3 ⟨p, x', e3, hp, e4, y⟩ => ?_⟩
  have e5 := y xs q2
  rw [h1] at e5
  cases e5
  subst e3 e4
  exact pair_new s2 hp (Dq.int _) (dp_mono s1 h2) rfl
theorem pi_enum2 {X : Cx} {e : Expr} {ta : TA} {p pos tpos : Pos} {elts : List Expr} {kk : Nat} (hg : Gl X "enumerate") (hm : X.mg "enumerate" = none) (ha : PA X [e] ta) (hs : starEach [e] X.env = [(false, eval e X.env)] := by rfl) :
    PI X (.Tuple elts kk tpos) (.Call (.Name "enumerate" p) [e] [] pos) (fun σ H R => ta σ H fun vs H1 => (∃ a xs, vs = [.ref a] ∧ SqL X.K H1 a xs ∧ R (Ite X.K a) H1) ∨ ∃ a xs, vs = [.ref a] ∧ SqT X.K H1 a xs ∧ R (Itet X.K a) H1) := by
  refine ⟨fun pins s σ H R I h => ?_⟩
  refine Call_ (ld_blt I hg hm boot_enumerate (PyProof.Rows.callWith_type1 (thn (ha.run pos pins s σ H _ I h) fun us s1 ⟨vs, H1, I1, r1, q1⟩ => ?_) hs rfl))
  have fp : ∀ b, b ∈ [s1.heap.objs.size + 1, s1.heap.objs.size] → s1.heap.objs.size ≤ b := fun b hb => by
    rcases List.mem_cons.mp hb with z | z
    · rw [z]; exact Nat.le_add_right _ _
    · rw [List.mem_singleton.mp z]; exact Nat.le_refl _
  rcases q1 with ⟨a, xs, ex, hq, q⟩ | ⟨a, xs, ex, hq, q⟩
  all_goals
    subst ex
    rw [Vals.ref1 r1]
  · obtain ⟨its, rv, p', hz⟩ := I1.list hq
    refine call_enumerate_list p'.isList fun h' he hit hsz hk => wpAny_pyIter_enum he ?_
    have I2 : Inv X pins σ H1 { s1 with heap := h' } := I1.kept (t' := s1.toks) hk
    exact ⟨_, [s1.heap.objs.size + 1, s1.heap.objs.size], _, _, H1, rfl, I2, turn_enum a _ s1.heap.objs.size, ⟨⟨.none, he⟩, hit, Nat.succ_ne_self _⟩, fun b hb => I1.fpOk (fp b hb) (I1.hok.fresh (fp b hb)), q⟩
  · obtain ⟨its, rv, p', hz⟩ := I1.tuple hq
    have p' : s1.heap.IsTuple a its.toArray := p'
    have alt : a < s1.heap.objs.size := by obtain ⟨o, ho, _⟩ := p'; exact Heap.lt_size ho
    refine enum_call (begins_tuple a its.toArray) p' fun h' he hit hk => wpAny_pyIter_enum he ?_
    have I2 : Inv X pins σ H1 { s1 with heap := h' } := I1.kept (t' := s1.toks) hk
    exact ⟨_, [s1.heap.objs.size + 1, s1.heap.objs.size], _, _, H1, rfl, I2, turn_enumT a _ s1.heap.objs.size (Nat.ne_of_lt alt), ⟨⟨.none, he⟩, ⟨_, hit, rfl, rfl⟩, Nat.succ_ne_self _⟩, fun b hb => I1.fpOk (fp b hb) (I1.hok.fresh (fp b hb)), q⟩
end DL
end
section
set_option maxRecDepth 100000
set_option maxHeartbeats 4000000
namespace DL
open PySem PySem.Spec PyProof.Rows L2
theorem attr_plain {o : Expr} {name : Str} {env : Env} (h : plainO o = true) : attributeBase o name env (eval o env) = eval o env := by
  cases o <;> first
    | rfl
    | (rename_i f as ks p; cases f <;> first
        | rfl
        | (cases as <;> first
            | rfl
            | (unfold plainO at h; cases h)))
section
variable {X : Cx} {o e : Expr} {to te : TE} {apos cpos : Pos}
theorem pe_splX (ho : PE X o to) (he : PE X e te) (po : plainO o = true) (pe : plainX e = true) (hl : (apos.endLine == cpos.line) = true) :
    PE X (.Call (.Attribute o "split" apos) [e] [] cpos) (tM1 (fun x xs H Q => ∃ a b, x = .str a ∧ xs = [.str b] ∧ (b.length == 0) = false ∧ a.length + 2 ≤ sizeLine ∧ rNewStrs (Txt.split a b) H Q) to te) :=
  pe_split ho he (starNo pe) (attr_plain po) hl
theorem pe_jnX (ho : PE X o to) (he : PE X e te) (po : plainO o = true) (pe : plainX e = true) (hl : (apos.endLine == cpos.line) = true) :
    PE X (.Call (.Attribute o "join" apos) [e] [] cpos) (tM1 (fun x xs H Q => ∃ a p, ∃ ys : List Str, x = .str a ∧ xs = [.ref p] ∧ (SqL X.K H p (ys.map V.str) ∨ SqT X.K H p (ys.map V.str)) ∧
      (ys.map (·.length)).sum + ys.length * a.length ≤ 16777216 ∧ Q (.str (Txt.join a ys)) H) to te) :=
  pe_join ho he (starNo pe) (attr_plain po) hl
theorem mt_sidx : MtR X "str.index" (fun x xs H Q => ∃ a b, x = .str a ∧ xs = [.str b] ∧ 0 ≤ Txt.find a b ∧ Q (.int (Txt.find a b)) H) := by
  intro pins s σ H x xs v us Q I rx rxs h
  obtain ⟨a, b, rfl, rfl, h0, q⟩ := h
  obtain ⟨t, rfl⟩ := _root_.id rx
  obtain ⟨u, rfl, ry⟩ := vals1 rxs
  obtain ⟨t2, rfl⟩ := _root_.id ry
  unfold Txt.find at h0 q
  cases ho : Builtin.Str.occurrences a b 0 a.length 1 with
  | nil => rw [ho] at h0; exact absurd h0 (by decide)
  | cons i rest =>
    rw [ho] at q
    exact call_gives F.slot_str_index (typeIs_str _ _ _) F.entry_str_index (F.args_str_index_2 _ _) (gives_str_index a b t t2 i rest ho) ⟨.int (i : Int), H, I.kept (t' := s.toks + 1) fun _ _ z => z, ⟨_, rfl⟩, q⟩
def rSfd (ix : Bool) : V → List V → Hp → VK → Prop := fun x xs H Q => ∃ a b, x = .str a ∧ xs = [.str b] ∧ (ix = true → 0 ≤ Txt.find a b) ∧ Q (.int (Txt.find a b)) H
theorem mt_six : MtR X "str.index" (rSfd true) := fun pins s σ H x xs v us Q I rx rxs ⟨a, b, e1, e2, h0, q⟩ => mt_sidx pins s σ H x xs v us Q I rx rxs ⟨a, b, e1, e2, h0 rfl, q⟩
theorem mt_sfd : MtR X "str.find" (rSfd false) := fun pins s σ H x xs v us Q I rx rxs ⟨a, b, e1, e2, _, q⟩ => mt_find pins s σ H x xs v us Q I rx rxs ⟨a, b, e1, e2, q⟩
theorem pe_sfdX (ix : Bool) (ho : PE X o to) (he : PE X e te) (po : plainO o = true) (pe : plainX e = true) (hl : (apos.endLine == cpos.line) = true) :
    PE X (.Call (.Attribute o (Str.ofString (if ix then "index" else "find")) apos) [e] [] cpos) (tM1 (rSfd ix) to te) := by
  cases ix with
  | true => exact pe_m1 F.slot_str_index F.type_str_index mt_six ho he (starNo pe) (attr_plain po) hl
  | false => exact pe_m1 F.slot_str_find F.type_str_find mt_sfd ho he (starNo pe) (attr_plain po) hl
theorem pe_lixX (hu : X.A.units + 65 < cLine) (ho : PE X o to) (he : PE X e te) (po : plainO o = true) (pe : plainX e = true) (hl : (apos.endLine == cpos.line) = true) :
    PE X (.Call (.Attribute o "index" apos) [e] [] cpos) (tBM X.K "list" (rIndexD X.K) to (tCons te tNil)) := by
  refine pe_bm PySem.F.plainAttrs_list PySem.F.slot_list_index PySem.F.type_list_index (mt_indexD hu) ho (pa_cons he pa_nil (starNo pe)) (attr_plain po) ?_ hl (starNo pe) rfl
  rw [starNo pe] <;> rfl
def tTix (K : PySem.W.Frag) (to te : TE) : TE := fun σ H Q => to σ H fun x H1 => (∃ p xs, x = V.ref p ∧ SqT K H1 p xs ∧ Nd K H1 p) ∧ te σ H1 fun y H2 => rTix K x [y] H2 Q
theorem nd_at {pins : List (Addr × Obj)} {σ : L2.St} {H : Hp} {s : Shared} {a : Addr} (I : Inv X pins σ H s) (h : Nd X.K H a) : ∃ ob, s.heap.get? a = some ob ∧ ob.dict = none := by
  obtain ⟨o, q, d⟩ := h
  rcases q with ⟨u, q⟩ | q
  · exact ⟨o, (I.hok _ _ q).1, d⟩
  · exact ⟨o, I.kIn a o q, d⟩
theorem pe_tixX (hu : X.A.units + 65 < cLine) (ho : PE X o to) (he : PE X e te) (po : plainO o = true) (pe : plainX e = true) (hl : (apos.endLine == cpos.line) = true) :
    PE X (.Call (.Attribute o "index" apos) [e] [] cpos) (tTix X.K to te) := by
  refine ⟨fun pins s σ H Q I h => ?_⟩
  refine PySem.Call_method1 (attr_plain po) (starNo pe) hl (thn (ho.run pins s σ H _ I h) fun v s1 w1 => ?_)
  obtain ⟨x, H1, I1, r1, ⟨p, xs, rfl, hq, nd⟩, q1⟩ := w1
  cases r1
  obtain ⟨its, rv, ht, hz⟩ := I1.tuple hq
  refine ⟨"tuple", "tuple.index", F.plainAttrs_tuple, F.slot_tuple_index, F.type_tuple_index, ht.typeIs, fun a ea => ?_, Calls.callWith_builtin rfl (Calls.evalArgs_plain (Calls.spliced_cons ?_))⟩
  · cases ea
    exact nd_at I1 nd
  · refine thn (he.run pins s1 σ H1 _ I1 q1) fun u s2 w2 => Calls.spliced_nil ?_
    obtain ⟨y, H2, I2, r2, q2⟩ := w2
    exact mt_tix hu pins s2 σ H2 (V.ref p) [y] (Value.ref p) [u] Q I2 rfl (.cons r2 .nil) q2
end
theorem dpa_of_strs {K : PySem.W.Frag} {H : Hp} : ∀ ys : List Str, DqAll K H (ys.map V.str) (ys.map PyData.str)
  | [] => .nil
  | y :: ys => .cons (.str y) (dpa_of_strs ys)
theorem dpa_strs {K : PySem.W.Frag} {H : Hp} : ∀ {ys : List Str} {xs : List V}, DqAll K H xs (ys.map PyData.str) → xs = ys.map V.str
  | [], xs, h => by cases h; rfl
  | y :: ys, xs, h => by
    cases h with
    | cons h1 h2 => cases h1; rw [dpa_strs h2]; rfl
end DL
end
section
set_option maxRecDepth 100000
set_option maxHeartbeats 4000000
namespace DL
open PySem PySem.Spec PyProof.Rows L2 RZ RT
theorem ty_mem {t : String} (h : ["int", "bool", "str", "tuple", "list"].contains t = true) : t ∈ ["isinstance", "range", "enumerate", "zip", "reversed", "int", "bool", "str", "tuple", "list", "sorted", "set"] := by
  have e : t = "int" ∨ t = "bool" ∨ t = "str" ∨ t = "tuple" ∨ t = "list" := by simpa using h
  rcases e with e | e | e | e | e <;> subst e <;> decide
section
variable {X : Cx} {K : PySem.W.Frag} {F H B F' : Hp}
def LenOk (K : PySem.W.Frag) (H : Hp) : Prop := ∀ (a : Addr) (xs : List V), (SqL K H a xs ∨ SqT K H a xs) → xs.length ≤ sizeLine
theorem PI.inv {tg x : Expr} {wi : TI} (h : PI X tg x wi) : PI X tg x (fun σ H R => wi σ H fun J H' => LenOk X.K H' → R J H') := by
  refine ⟨fun pins s σ H R I q => ?_⟩
  refine thn (h.run pins s σ H _ I q) fun v s1 q1 => thn q1 fun itv s2 q2 => ?_
  obtain ⟨it, fp, tn, J, H', e, I2, T2, st, fr, r⟩ := q2
  exact ⟨it, fp, tn, J, H', e, I2, T2, st, fr, r fun a xs q => by
    rcases q with q | q
    · obtain ⟨_, _, _, z⟩ := I2.list q; exact z
    · obtain ⟨_, _, _, z⟩ := I2.tuple q; exact z⟩
theorem seq_at {r : R} {y : V} {ds : List D} (v : RV K B F H r y) (s : Same F F') (f : Same F' H) (e : look r = .list ds) : ∃ (a : Addr) (xs : List V) (F2 : Hp), y = .ref a ∧ Same F' F2 ∧ Same F2 H ∧ (∀ b, B b ≠ none → F' b = none → F2 b = none) ∧ DqAll K F2 xs ds ∧
    SqL K H a xs ∧ ∀ F3 H3, Same F2 F3 → Same F3 H3 → (borR r = true → Same H H3) → SqL K H3 a xs := by
  cases r with
  | d d =>
    have e : d = .list ds := e
    subst e
    cases (show Dq K F y (.list ds) from v) with
    | lst p1 p2 =>
      rename_i a xs
      exact ⟨a, xs, F', rfl, Same.refl _, f, fun _ _ z => z, dpa_mono s p2, .inl (Rd.mono (s.trans f) p1), fun F3 H3 q1 q2 _ => .inl (Rd.mono (s.trans (q1.trans q2)) p1)⟩
  | l es fr =>
    have e : PyData.list es = .list ds := e
    cases e
    obtain ⟨a, xs, p1, p2, p3, p4, p5⟩ := v
    subst p1
    cases fr with
    | false => exact ⟨a, xs, F', rfl, Same.refl _, f, fun _ _ z => z, dpa_mono s p3, .inl (.inl p2), fun F3 H3 q1 q2 q3 => .inl (.inl (q3 rfl _ _ p2))⟩
    | true =>
      cases q : F' a with
      | none =>
        refine ⟨a, xs, upd F' a (.lst xs), rfl, same_upd q, upd_le f p2, fun b hb hf => ?_, dpa_mono (s.trans (same_upd q)) p3, .inl (.inl p2), fun F3 H3 q1 q2 _ => .inl (.inl (q2 _ _ (q1 _ _ upd_same)))⟩
        rw [upd_ne (fun z => by subst z; exact hb (p5 rfl))]
        exact hf
      | some o =>
        have e := f a o q
        rw [p2] at e
        cases e
        exact ⟨a, xs, F', rfl, Same.refl _, f, fun _ _ z => z, dpa_mono s p3, .inl (.inl p2), fun F3 H3 q1 q2 _ => .inl (.inl (q2 _ _ (q1 _ _ q)))⟩
end
section
variable {X : Cx} {K : PySem.W.Frag} {F H B F' : Hp}
theorem seq_atS {r : R} {y : V} {ds : List D} (v : RV K B F H r y) (s : Same F F') (f : Same F' H) (e : look r = .list ds ∨ look r = .tuple ds) : ∃ (a : Addr) (t : Bool) (xs : List V) (F2 : Hp), y = .ref a ∧ Same F' F2 ∧ Same F2 H ∧ (∀ b, B b ≠ none → F' b = none → F2 b = none) ∧ DqAll K F2 xs ds ∧
    SqS K H t a xs ∧ ∀ F3 H3, Same F2 F3 → Same F3 H3 → (borR r = true → Same H H3) → SqS K H3 t a xs := by
  rcases e with e | e
  · obtain ⟨a, xs, F2, h1, h2, h3, h4, h5, h6, h7⟩ := seq_at v s f e
    exact ⟨a, false, xs, F2, h1, h2, h3, h4, h5, h6, h7⟩
  · obtain ⟨a, xs, h1, h2, h3⟩ := rv_tup v e
    exact ⟨a, true, xs, F', h1, Same.refl _, f, fun _ _ z => z, dpa_mono s h3, SqT.mono (s.trans f) h2, fun F3 H3 q1 q2 _ => SqT.mono (s.trans (q1.trans q2)) h2⟩
theorem wZip_inv {r s : R} {Q : List D → Bool → Prop} (h : wZip r s Q) : ∃ ds es, (look r = .list ds ∨ look r = .tuple ds) ∧ (look s = .list es ∨ look s = .tuple es) ∧ Q (zipD ds es) (borR r || borR s) := by
  unfold wZip at h
  split at h
  · exact ⟨_, _, .inl (by assumption), .inl (by assumption), h⟩
  · rename_i ds es e1 e2
    refine ⟨_, _, .inr e1, .inr e2, ?_⟩
    rw [bor_tup e1, bor_tup e2]
    exact h
  · exact ⟨_, _, .inl (by assumption), .inr (by assumption), h⟩
  · exact ⟨_, _, .inr (by assumption), .inl (by assumption), h⟩
  · exact h.elim
end
mutual
theorem sE {T : Tb} {G : Nat → DSp} {n : Nat} {cm : Bool} : ∀ (e : E) (X : Cx) (W : WX) (g : GX T G n cm W X) (x : Expr), ckE T X.N cm X.env.scope e x = true → Snd X x (tE X.K T W (wE G e))
  | .v i, X, W, g, x, h => by
    unfold ckE at h
    split at h
    · obtain ⟨h1, h2, h3, h4⟩ := ckV_ok h
      refine Snd.of (PE.imp (pe_var h1 h2 h3 h4) fun σ H Q q => ?_) rfl
      obtain ⟨F0, H0, F, ρ, Ex, P, sx, q, post⟩ := q
      unfold wE wVar at q
      split at q
      · rename_i d e
        obtain ⟨v, g1, g2⟩ := sx.sr.val i d e
        exact ⟨v, g1, post _ _ F H q Step.refl sx.sr.fh g2⟩
      · rename_i ds b e
        obtain ⟨a, xs, g1, g2, g3, g4, g5⟩ := sx.sr.own i ds b e
        exact ⟨_, g1, post _ _ F H q Step.refl sx.sr.fh ⟨a, xs, rfl, g2, g3, g4, fun z => nomatch z⟩⟩
      · exact q.elim
    · cases h
  | .non, X, W, g, x, h => by
    unfold ckE at h
    split at h
    · refine Snd.of (PE.imp pe_non fun σ H Q q => ?_) rfl
      obtain ⟨F0, H0, F, ρ, Ex, P, sx, q, post⟩ := q
      exact post _ _ F H q Step.refl sx.sr.fh Dq.non
    · cases h
  | .bl b, X, W, g, x, h => by
    unfold ckE at h
    split at h
    · refine Snd.of (PE.imp pe_bl fun σ H Q q => ?_) rfl
      obtain ⟨F0, H0, F, ρ, Ex, P, sx, q, post⟩ := q
      have e := eq_of_beq h
      subst e
      exact post _ _ F H q Step.refl sx.sr.fh (Dq.bl _)
    · cases h
  | .int k, X, W, g, x, h => by
    unfold ckE at h
    split at h
    · refine Snd.of (PE.imp pe_int fun σ H Q q => ?_) rfl
      obtain ⟨F0, H0, F, ρ, Ex, P, sx, q, post⟩ := q
      have e := of_decide_eq_true h
      subst e
      exact post _ _ F H q Step.refl sx.sr.fh (Dq.int _)
    · cases h
  | .str k, X, W, g, x, h => by
    unfold ckE at h
    split at h
    · refine Snd.of (PE.imp pe_str fun σ H Q q => ?_) rfl
      obtain ⟨F0, H0, F, ρ, Ex, P, sx, q, post⟩ := q
      have e := of_decide_eq_true h
      subst e
      exact post _ _ F H q Step.refl sx.sr.fh (Dq.str _)
    · cases h
  | .gl k, X, W, g, x, h => by
    unfold ckE at h
    split at h
    · obtain ⟨h0, h1⟩ := ba h
      obtain ⟨e, h2, h3⟩ := ckG_ok h1
      subst e
      obtain ⟨u, v, g1, g2, g3⟩ := g.gl k (by simpa using h0)
      refine Snd.of (PE.imp (pe_glob (Gl_of h2) g1 g2 h3) fun σ H Q q => ?_) rfl
      obtain ⟨F0, H0, F, ρ, Ex, P, sx, q, post⟩ := q
      exact post _ _ F H q Step.refl sx.sr.fh (dp_mono (fun _ _ z => by cases z) g3)
    · cases h
  | .bin op a b, X, W, g, x, h => by
    unfold ckE at h
    split at h
    · obtain ⟨h, h2⟩ := ba h
      obtain ⟨h0, h1⟩ := ba h
      have e := of_decide_eq_true h0
      subst e
      exact Snd.of (PE.imp (pe_op (op_binD op) (sE a X W g _ h1).pe (sE b X W g _ h2).pe) fun σ H Q q => tE_bin q) rfl
    · cases h
  | .neg a, X, W, g, x, h => by
    unfold ckE at h
    split at h
    · exact Snd.of (PE.imp (pe_un un_negD (sE a X W g _ h).pe) fun σ H Q q => tE_un q) rfl
    · cases h
  | .not a, X, W, g, x, h => by
    unfold ckE at h
    split at h
    · have sa := sE a X W g _ h
      refine ⟨PE.imp (pe_not sa.pe) fun σ H Q q => ?_, PT.imp (pt_not sa.pt) fun σ H Q q => ?_, fun z => by cases z⟩
      · obtain ⟨F0, H0, F, ρ, Ex, P, sx, q, post⟩ := q
        refine (run1 (w := wE G a) sx q).mono fun y H1 ⟨F1, r, s1, f1, v1, h1⟩ => ?_
        obtain ⟨b, e, zz⟩ := wTru_inv h1
        clear h1
        have h1 := zz
        clear zz
        subst e
        exact ⟨b, rv_bool v1, post _ _ F1 H1 h1 s1 f1 (Dq.bl _)⟩
      · obtain ⟨F0, H0, F, ρ, Ex, P, sx, q, post⟩ := q
        refine (run1 (w := wE G a) sx q).mono fun y H1 ⟨F1, r, s1, f1, v1, h1⟩ => ?_
        obtain ⟨b, e, zz⟩ := wTru_inv h1
        clear h1
        have h1 := zz
        clear zz
        subst e
        obtain ⟨k, e, q2⟩ := post _ (.bl (!b)) F1 H1 h1 s1 f1 (Dq.bl _)
        cases e
        exact ⟨b, rv_bool v1, q2⟩
    · cases h
  | .cmp op a b, X, W, g, x, h => by
    unfold ckE at h
    split at h
    · obtain ⟨h, h3⟩ := ba h
      obtain ⟨h, h2⟩ := ba h
      obtain ⟨h0, h1⟩ := ba h
      have e := of_decide_eq_true h0
      subst e
      have sa := (sE a X W g _ h2).pe
      have sb := (sE b X W g _ h3).pe
      exact ⟨PE.imp (pe_cmpR (op_cmpD op g.hu) sa sb (noMarks h1)) fun σ H Q q => tE_bin q, PT.imp (pt_cmpR (op_cmpD op g.hu) sa sb (noMarks h1)) fun σ H Q q => tE_bin q, fun z => by cases z⟩
    · cases h
  | .chn op op' a b c, X, W, g, x, h => by
    unfold ckE at h
    split at h
    · obtain ⟨h, h6⟩ := ba h
      obtain ⟨h, h5⟩ := ba h
      obtain ⟨h, h4⟩ := ba h
      obtain ⟨h, h3⟩ := ba h
      obtain ⟨h, h2⟩ := ba h
      obtain ⟨h0, h1⟩ := ba h
      have e := of_decide_eq_true h0
      have e' := of_decide_eq_true h1
      subst e e'
      have sa := (sE a X W g _ h4).pe
      have sb := (sE b X W g _ h5).pe
      have sc := (sE c X W g _ h6).pe
      have lm : ∀ q r : Expr, plainX r = true → lastMarks [op, op'] [q, r] = false := fun q r hr => noMarks hr
      have im : ∀ σ H Q, tE X.K T W (wE G (.chn op op' a b c)) σ H Q → tChain (rB X.K (wCmp op)) (rB X.K (wCmp op')) (tE X.K T W (wE G a)) (tE X.K T W (wE G b)) (tE X.K T W (wE G c)) σ H Q := fun σ H Q q => by
        obtain ⟨F0, H0, F, ρ, Ex, P, sx, q, post⟩ := q
        refine (run1 (w := wE G a) sx q).mono fun y H1 ⟨F1, r, s1, f1, v1, k1⟩ => ?_
        refine (run1 (w := wE G b) (sx.step s1 f1) k1).mono fun z H2 ⟨F2, s, s2, f2, v2, k2⟩ => ?_
        refine ⟨F2, H, r, s, _, f2, v1.step s2, v2.base s1.h, k2, fun t v F3 H3 hp s3 f3 v3 => ?_⟩
        obtain ⟨k, e, zz⟩ := wTru_inv hp
        clear hp
        have hp := zz
        clear zz
        subst e
        refine ⟨k, rv_bool v3, ?_⟩
        cases k with
        | false =>
          have hp := wIf_f hp
          rw [if_neg Bool.false_ne_true]
          exact post _ _ F3 H3 hp ((s1.trans s2).trans s3) f3 (Dq.bl _)
        | true =>
          have hp := wIf_t hp
          rw [if_pos rfl]
          refine (run1 (w := wE G c) (sx.step ((s1.trans s2).trans s3) f3) hp).mono fun w H4 ⟨F4, u, s4, f4, v4, k4⟩ => ?_
          exact ⟨F4, H, s, u, P, f4, ((v2.step s3).step s4).base s1.h, v4.base (s1.h.trans (s2.h.trans s3.h)), k4, fun t v F' H' hp s5 f5 v5 => post t v F' H' hp ((((s1.trans s2).trans s3).trans s4).trans s5) f5 (v5.base (s1.h.trans (s2.h.trans (s3.h.trans s4.h))))⟩
      exact ⟨PE.imp (pe_chain (op_cmpD op g.hu) (op_cmpD op' g.hu) sa sb sc (lm _ _ h3)) im, PT.imp (pt_chain (op_cmpD op g.hu) (op_cmpD op' g.hu) sa sb sc (lm _ _ h3)) fun σ H Q q => im σ H _ q, fun z => by cases z⟩
    · cases h
  | .isN a, X, W, g, x, h => by
    unfold ckE at h
    split at h
    · have sa := (sE a X W g _ h).pe
      have im : ∀ σ H Q, tE X.K T W (wE G (.isN a)) σ H Q → tIsN (tE X.K T W (wE G a)) σ H Q := fun σ H Q q => by
        obtain ⟨F0, H0, F, ρ, Ex, P, sx, q, post⟩ := q
        refine (run1 (w := wE G a) sx q).mono fun y H1 ⟨F1, r, s1, f1, v1, k1⟩ => ?_
        rw [isNone_rv v1]
        exact post _ _ F1 H1 k1 s1 f1 (Dq.bl _)
      exact ⟨PE.imp (pe_cmp (pc_isN sa)) im, PT.imp (pt_cmp (pc_isN sa)) fun σ H Q q => im σ H _ q, fun z => by cases z⟩
    · cases h
  | .notN a, X, W, g, x, h => by
    unfold ckE at h
    split at h
    · have sa := (sE a X W g _ h).pe
      have im : ∀ σ H Q, tE X.K T W (wE G (.notN a)) σ H Q → tNotN (tE X.K T W (wE G a)) σ H Q := fun σ H Q q => by
        obtain ⟨F0, H0, F, ρ, Ex, P, sx, q, post⟩ := q
        refine (run1 (w := wE G a) sx q).mono fun y H1 ⟨F1, r, s1, f1, v1, k1⟩ => ?_
        rw [isNone_rv v1]
        exact post _ _ F1 H1 k1 s1 f1 (Dq.bl _)
      exact ⟨PE.imp (pe_cmp (pc_notN sa)) im, PT.imp (pt_cmp (pc_notN sa)) fun σ H Q q => im σ H _ q, fun z => by cases z⟩
    · cases h
  | .and a b, X, W, g, x, h => by
    unfold ckE at h
    split at h
    · rename_i p q r ps
      obtain ⟨h1, h2⟩ := ba h
      have sa := sE a X W g _ h1
      have key : PE X (.BoolOp .And (q :: r) ps) (tE X.K T W (wE G b)) ∧ PW X (.BoolOp .And (q :: r) ps) (tTest (tE X.K T W (wE G b))) := by
        cases r with
        | nil =>
          have sb := sE b X W g _ h2
          exact ⟨pe_one sb.pe, pw_and1 sb.pt⟩
        | cons r rs =>
          have sb := sE b X W g _ h2
          exact ⟨sb.pe, sb.pw rfl⟩
      have imT : ∀ σ H Q, tTest (tE X.K T W (wE G (.and a b))) σ H Q → tAnd (tTest (tE X.K T W (wE G a))) (tTest (tE X.K T W (wE G b))) σ H Q := fun σ H Q q => by
        obtain ⟨F0, H0, F, ρ, Ex, P, sx, q, post⟩ := q
        refine (run1 (w := wE G a) sx q).mono fun y H1 ⟨F1, r, s1, f1, v1, k1⟩ => ?_
        obtain ⟨k, e, zz⟩ := wTru_inv k1
        clear k1
        have k1 := zz
        clear zz
        subst e
        refine ⟨k, rv_bool v1, ?_⟩
        cases k with
        | false =>
          have k1 := wIf_f k1
          rw [if_neg Bool.false_ne_true]
          obtain ⟨k, e, q2⟩ := post _ (.bl false) F1 H1 k1 s1 f1 (Dq.bl _)
          cases e
          exact q2
        | true =>
          have k1 := wIf_t k1
          rw [if_pos rfl]
          exact (run1 (w := wE G b) (sx.step s1 f1) k1).mono fun z H2 ⟨F2, r2, s2, f2, v2, k2⟩ => post _ _ F2 H2 k2 (s1.trans s2) f2 (v2.base s1.h)
      have w : PW X (.BoolOp .And (p :: q :: r) ps) (tTest (tE X.K T W (wE G (.and a b)))) := PW.imp (pw_and sa.pt key.2) imT
      refine ⟨PE.imp (pe_and sa.pe key.1) fun σ H Q q => ?_, w.pt, fun _ => w⟩
      obtain ⟨F0, H0, F, ρ, Ex, P, sx, q, post⟩ := q
      refine (run1 (w := wE G a) sx q).mono fun y H1 ⟨F1, r, s1, f1, v1, k1⟩ => ?_
      obtain ⟨k, e, zz⟩ := wTru_inv k1
      clear k1
      have k1 := zz
      clear zz
      subst e
      refine ⟨k, rv_bool v1, ?_⟩
      cases k with
      | false =>
        have k1 := wIf_f k1
        rw [if_neg Bool.false_ne_true]
        exact post _ _ F1 H1 k1 s1 f1 (Dq.bl _)
      | true =>
        have k1 := wIf_t k1
        rw [if_pos rfl]
        exact (run1 (w := wE G b) (sx.step s1 f1) k1).mono fun z H2 ⟨F2, r2, s2, f2, v2, k2⟩ => post _ _ F2 H2 k2 (s1.trans s2) f2 (v2.base s1.h)
    · cases h
  | .or a b, X, W, g, x, h => by
    unfold ckE at h
    split at h
    · rename_i p q r ps
      obtain ⟨h1, h2⟩ := ba h
      have sa := sE a X W g _ h1
      have key : PE X (.BoolOp .Or (q :: r) ps) (tE X.K T W (wE G b)) ∧ PW X (.BoolOp .Or (q :: r) ps) (tTest (tE X.K T W (wE G b))) := by
        cases r with
        | nil =>
          have sb := sE b X W g _ h2
          exact ⟨pe_one sb.pe, pw_or1 sb.pt⟩
        | cons r rs =>
          have sb := sE b X W g _ h2
          exact ⟨sb.pe, sb.pw rfl⟩
      have imT : ∀ σ H Q, tTest (tE X.K T W (wE G (.or a b))) σ H Q → tOr (tTest (tE X.K T W (wE G a))) (tTest (tE X.K T W (wE G b))) σ H Q := fun σ H Q q => by
        obtain ⟨F0, H0, F, ρ, Ex, P, sx, q, post⟩ := q
        refine (run1 (w := wE G a) sx q).mono fun y H1 ⟨F1, r, s1, f1, v1, k1⟩ => ?_
        obtain ⟨k, e, zz⟩ := wTru_inv k1
        clear k1
        have k1 := zz
        clear zz
        subst e
        refine ⟨k, rv_bool v1, ?_⟩
        cases k with
        | true =>
          have k1 := wIf_t k1
          rw [if_pos rfl]
          obtain ⟨k, e, q2⟩ := post _ (.bl true) F1 H1 k1 s1 f1 (Dq.bl _)
          cases e
          exact q2
        | false =>
          have k1 := wIf_f k1
          rw [if_neg Bool.false_ne_true]
          exact (run1 (w := wE G b) (sx.step s1 f1) k1).mono fun z H2 ⟨F2, r2, s2, f2, v2, k2⟩ => post _ _ F2 H2 k2 (s1.trans s2) f2 (v2.base s1.h)
      have w : PW X (.BoolOp .Or (p :: q :: r) ps) (tTest (tE X.K T W (wE G (.or a b)))) := PW.imp (pw_or sa.pt key.2) imT
      refine ⟨PE.imp (pe_or sa.pe key.1) fun σ H Q q => ?_, w.pt, fun _ => w⟩
      obtain ⟨F0, H0, F, ρ, Ex, P, sx, q, post⟩ := q
      refine (run1 (w := wE G a) sx q).mono fun y H1 ⟨F1, r, s1, f1, v1, k1⟩ => ?_
      obtain ⟨k, e, zz⟩ := wTru_inv k1
      clear k1
      have k1 := zz
      clear zz
      subst e
      refine ⟨k, rv_bool v1, ?_⟩
      cases k with
      | true =>
        have k1 := wIf_t k1
        rw [if_pos rfl]
        exact post _ _ F1 H1 k1 s1 f1 (Dq.bl _)
      | false =>
        have k1 := wIf_f k1
        rw [if_neg Bool.false_ne_true]
        exact (run1 (w := wE G b) (sx.step s1 f1) k1).mono fun z H2 ⟨F2, r2, s2, f2, v2, k2⟩ => post _ _ F2 H2 k2 (s1.trans s2) f2 (v2.base s1.h)
    · cases h
  | .tup es, X, W, g, x, h => by
    unfold ckE at h
    split at h
    · refine Snd.of (PE.imp (pe_tupX (sEs es X W g _ h)) fun σ H Q q => ?_) rfl
      obtain ⟨F0, H0, F, ρ, Ex, P, sx, q, post⟩ := q
      refine (runA (w := wEs G es) sx q).mono fun vs H1 ⟨F1, rs, s1, f1, v1, k1⟩ => ?_
      obtain ⟨F2, ds, a1, a2, a3, a4, a5, a6⟩ := args_at v1 (Same.refl _) f1 k1
      refine ⟨by rw [dpa_len a3]; exact a5, fun p o ho hp => ?_⟩
      exact post _ _ _ _ a6 ((step_frz s1 a1 a4).trans (Step.new a2 hp)) (same_new a2) (dq_new a2 hp ho a3)
    · cases h
  | .lst es, X, W, g, x, h => by
    unfold ckE at h
    split at h
    · refine Snd.of (PE.imp (pe_lst (sEs es X W g _ h)) fun σ H Q q => ?_) rfl
      obtain ⟨F0, H0, F, ρ, Ex, P, sx, q, post⟩ := q
      refine (runA (w := wEs G es) sx q).mono fun vs H1 ⟨F1, rs, s1, f1, v1, k1⟩ => ?_
      obtain ⟨F2, ds, a1, a2, a3, a4, a5, a6⟩ := args_at v1 (Same.refl _) f1 k1
      refine ⟨by rw [dpa_len a3]; exact a5, fun p hp => ?_⟩
      exact post _ _ _ _ a6 ((step_frz s1 a1 a4).trans (Step.own a2 hp)) (same_own a2 hp) ((rv_new a2 hp a3).base s1.h)
    · cases h
  | .ix a b, X, W, g, x, h => by
    unfold ckE at h
    split at h
    · obtain ⟨h, h2⟩ := ba h
      obtain ⟨h0, h1⟩ := ba h
      exact Snd.of (PE.imp (pe_ix ix_D (sE a X W g _ h1).pe (sE b X W g _ h2).pe (plainIx h0)) fun σ H Q q => tE_bin q) rfl
    · cases h
  | .sl a lo hi, X, W, g, x, h => by
    unfold ckE at h
    split at h
    · obtain ⟨h, h2⟩ := ba h
      obtain ⟨h0, h1⟩ := ba h
      refine Snd.of (PE.imp (pe_slice sl_D (sE a X W g _ h0).pe (sO lo X W g _ h1) (sO hi X W g _ h2)) fun σ H Q q => ?_) rfl
      obtain ⟨F0, H0, F, ρ, Ex, P, sx, q, post⟩ := q
      refine (run1 (w := wE G a) sx q).mono fun y H1 ⟨F1, r, s1, f1, v1, k1⟩ => ?_
      refine (runO (w := wO G lo) (sx.step s1 f1) k1).mono fun l2 H2 ⟨F2, s2, f2, k2⟩ => ?_
      refine (runO (w := wO G hi) (sx.step (s1.trans s2) f2) k2).mono fun h3 H3 ⟨F3, s3, f3, k3⟩ => ?_
      exact ⟨F3, H, r, P, f3, (v1.step s2).step s3, k3, fun t v F' H' hp s4 f4 v4 => post t v F' H' hp (((s1.trans s2).trans s3).trans s4) f4 (v4.base (s1.h.trans (s2.h.trans s3.h)))⟩
    · cases h
  | .call f es, X, W, g, x, h => by
    unfold ckE at h
    split at h
    · rename_i y yp p ps pos
      obtain ⟨h, h3⟩ := ba h
      obtain ⟨h, h2⟩ := ba h
      obtain ⟨hc, h1⟩ := ba h
      obtain ⟨e, g1, g2⟩ := ckG_ok h2
      subst e
      obtain ⟨k, a, fd, pp, hk, hF, hm, hkp, hb⟩ := (g.fns f (by simpa using h1)).ex
      obtain ⟨px, pl⟩ := pos_call h3 X.env pos
      refine Snd.of (PE.imp (pe_callS (E := WE W) hF ((g.room hc).mono hk) (Gl_of g1) hm hkp hb (fun σ => passAt g.tk σ) (sEs es X W g _ h3) g2 (starNo px) pl) fun σ H Q q => ?_) rfl
      obtain ⟨F0, H0, F, ρ, Ex, P, sx, q, post⟩ := q
      refine (runA (w := wEs G es) sx q).mono fun vs H1 ⟨F1, rs, s1, f1, v1, k1⟩ => ?_
      obtain ⟨F2, ds, a1, a2, a3, a4, a5⟩ := args_at v1 (Same.refl _) f1 k1
      have s2 := step_frz s1 a1 a4
      exact ⟨F2, ds, P, Ex, a2, a3, a5, fun r v F' H' hp s3 f3 v3 => post r v F' H' hp (s2.trans s3) f3 (v3.base s1.h), fun c F' H' hp s3 f3 => sx.ex c F' H' hp (s2.trans s3) f3⟩
    · cases h
  | .bi b es, X, W, g, x, h => by
    unfold ckE at h
    split at h
    · rename_i y yp p ps pos
      obtain ⟨h, h3⟩ := ba h
      obtain ⟨hc, h2⟩ := ba h
      obtain ⟨e, g1, g2⟩ := ckG_ok h2
      subst e
      obtain ⟨px, pl⟩ := pos_call h3 X.env pos
      have im : ∀ σ H Q, tE X.K T W (wE G (.bi b es)) σ H Q → tCB (rC X.K (wBi b)) (tA X.K T W (wEs G es)) σ H Q := fun σ H Q q => by
        obtain ⟨F0, H0, F, ρ, Ex, P, sx, q, post⟩ := q
        refine (runA (w := wEs G es) sx q).mono fun vs H1 ⟨F1, rs, s1, f1, v1, k1⟩ => ?_
        exact ⟨F1, H, rs, P, f1, v1, k1, fun t v F' H' hp s2 f2 v2 => post t v F' H' hp (s1.trans s2) f2 (v2.base s1.h)⟩
      rcases bi_all (X := X) b (g.calm hc) with ⟨_, c, bt⟩ | ⟨_, c, bt⟩
      · exact Snd.of (PE.imp (pe_callTy c (Gl_of g1) (g.bi b) bt (sEs es X W g _ h3) (bname_ne b) g2 (starNo px) pl) im) rfl
      · exact Snd.of (PE.imp (pe_callB c (Gl_of g1) (g.bi b) bt (sEs es X W g _ h3) (bname_ne b) g2 (starNo px) pl) im) rfl
    · cases h
  | .isi a t, X, W, g, x, h => by
    unfold ckE at h
    split at h
    · rename_i y yp p z zp pos
      obtain ⟨h, h4⟩ := ba h
      obtain ⟨h, h3⟩ := ba h
      obtain ⟨h, h2⟩ := ba h
      obtain ⟨h0, h1⟩ := ba h
      obtain ⟨e, g1, g2⟩ := ckG_ok h0
      obtain ⟨e', g1', g2'⟩ := ckG_ok h3
      subst e e'
      obtain ⟨tb, tn, _⟩ := ty_ok h4
      have sa := (sE a X W g _ h2).pe
      have pz : PE X (.Name (Str.ofString t) zp) (tC (.ty t)) := pe_bltn (Gl_of g1') (g.bo t (ty_mem h4)) tb rfl tn g2'
      have pa : PA X [p, .Name (Str.ofString t) zp] (tCons (tE X.K T W (wE G a)) (tCons (tC (.ty t)) tNil)) := pa_cons sa (pa_cons pz pa_nil) (starNo h1)
      refine Snd.of (PE.imp (pe_callB call_isi (Gl_of g1) (g.bo "isinstance" (by decide)) PyProof.Rows.boot_isinstance pa (by decide) g2 (starNo h1) rfl) fun σ H Q q => ?_) rfl
      obtain ⟨F0, H0, F, ρ, Ex, P, sx, q, post⟩ := q
      refine (run1 (w := wE G a) sx q).mono fun y H1 ⟨F1, r, s1, f1, v1, k1⟩ => ?_
      obtain ⟨k1, k2⟩ := k1
      obtain ⟨b, hb⟩ : ∃ b, kitB (tyD (look r)) t = some b := by
        cases e : kitB (tyD (look r)) t with
        | none => exact absurd e k1
        | some b => exact ⟨b, rfl⟩
      have eb : isiB (look r) t = b := by unfold isiB; rw [hb]; rfl
      rw [eb] at k2
      exact ⟨y, .ty t, .type (tyD (look r)), .type t, b, rfl, .ty t, tyX_of (v1.look f1), kit_ty hb, post _ _ F1 H1 k2 s1 f1 (Dq.bl _)⟩
    · cases h
  | .lc elt tg it cond own, X, W, g, x, h => by
    unfold ckE at h
    split at h
    · rename_i e t i ifs scope pos
      obtain ⟨h, h6⟩ := ba h
      obtain ⟨h, h5⟩ := ba h
      obtain ⟨h, h4⟩ := ba h
      obtain ⟨h, h3⟩ := ba h
      obtain ⟨hc, h2⟩ := ba h
      have ok := blkOk_by h3
      obtain ⟨pi, nf⟩ := sI it X W g t i h2 (g.calm hc)
      have hg := fun (s : Shared) (H : Hp) (C : Addr) (cl : List (Str × Addr)) (fp : List Addr) => pg_of (X := X.blk s H scope (compEnvC scope cl C X.env) fp) (sc := scope) blk_loc g.nd (g.calm hc) h4
      have ht := fun (s : Shared) (H : Hp) (C : Addr) (cl : List (Str × Addr)) (fp : List Addr) => sCond cond (X.blk s H scope (compEnvC scope cl C X.env) fp) (gx_blk g) ifs h6
      have he := fun (s : Shared) (H : Hp) (C : Addr) (cl : List (Str × Addr)) (fp : List Addr) => (sE elt (X.blk s H scope (compEnvC scope cl C X.env) fp) W0 (gx_blk g) e h5).pe
      exact Snd.of (PE.imp (pe_lc (g.calm hc) g.nd pi ok hg ht he nf) fun σ H Q q => sLc g (g.calm hc) pi ok hg ht he nf (ckT_own h4) (pos := pos) q) rfl
    · cases h
  | .sset a, X, W, g, x, h => by
    unfold ckE at h
    split at h
    · rename_i y yp z zp p q pos
      obtain ⟨h, h4⟩ := ba h
      obtain ⟨h, h3⟩ := ba h
      obtain ⟨h, h2⟩ := ba h
      obtain ⟨hc, h1⟩ := ba h
      obtain ⟨e, g1, g2⟩ := ckG_ok h1
      obtain ⟨e', g1', g2'⟩ := ckG_ok h2
      subst e e'
      refine Snd.of (PE.imp (pe_sset (g.calm hc) (by have := g.hu; omega) (Gl_of g1) (g.bo "sorted" (by decide)) (Gl_of g1') (g.bo "set" (by decide)) (sE a X W g _ h4).pe (starNo h3)) fun σ H Q q => ?_) rfl
      obtain ⟨F0, H0, F, ρ, Ex, P, sx, q, post⟩ := q
      refine (run1 (w := wE G a) sx q).mono fun y H1 ⟨F1, r, s1, f1, v1, k1⟩ => ?_
      obtain ⟨vs, hv, few, k1⟩ := k1
      have fin : ∀ xs : List V, DqAll X.K F1 xs (vs.map vD) → ∃ ks : List (Addr × List Int), xs = refsV ks ∧ (∀ p ∈ ks, SqT X.K H1 p.1 (p.2.map V.int) ∧ p.2.length = 2) ∧ ks.length ≤ 2047 ∧
          ∀ (L : List (Addr × List Int)) (p : Addr), (∀ q ∈ L, q ∈ ks) → (∀ q ∈ ks, q.2 ∈ L.map (·.2)) → (L.map (·.2)).Nodup → L.Pairwise (fun q r => SrtO.lexB (prI r.2) (prI q.2) = false) → H1 p = none → Q (.ref p) (upd H1 p (.lst (refsV L))) := fun xs hd => by
        obtain ⟨ks, e, a, b⟩ := vs_keys hd
        refine ⟨ks, e, fun p hp => ⟨SqT.mono f1 (a p hp).1, (a p hp).2⟩, by rw [← List.length_map (as := ks) fun p => prI p.2, b]; exact few, fun L p sub all nd pw hp => ?_⟩
        obtain ⟨o1, o2⟩ := sset_out (fun p hp => (a p hp).2) b sub all nd pw
        exact post _ (.ref p) F1 _ (k1 _ o1 o2) (s1.trans (Step.own f1 hp)) (same_own f1 hp) ((rv_new f1 hp (keys_vs fun p hp => a p (sub p hp))).base s1.h)
      rcases hv with e | e
      · obtain ⟨a, xs, e1, h1, h2⟩ := rv_list f1 v1 e
        obtain ⟨ks, e2, b1, b2, b3⟩ := fin xs h2
        exact ⟨a, ks, e1, .inl (by rw [← e2]; exact .inl h1), b1, b2, b3⟩
      · obtain ⟨a, xs, e1, h1, h2⟩ := rv_tup v1 e
        obtain ⟨ks, e2, b1, b2, b3⟩ := fin xs h2
        exact ⟨a, ks, e1, .inr (by rw [← e2]; exact SqT.mono f1 h1), b1, b2, b3⟩
    · cases h
  | .rvs a, X, W, g, x, h => by
    unfold ckE at h
    split at h
    · obtain ⟨h1, h2⟩ := ba h
      have e := of_decide_eq_true h1
      subst e
      refine Snd.of (PE.imp (pe_revT (sE a X W g _ h2).pe) fun σ H Q q => ?_) rfl
      obtain ⟨F0, H0, F, ρ, Ex, P, sx, q, post⟩ := q
      refine (run1 (w := wE G a) sx q).mono fun y H1 ⟨F1, r, s1, f1, v1, k1⟩ => ?_
      have k1 : wRvs r P := k1
      unfold wRvs at k1
      split at k1
      · rename_i ds e
        obtain ⟨a, xs, e1, h1, h2⟩ := rv_list f1 v1 e
        exact ⟨a, xs, e1, .inl ⟨.inl h1, fun p hp => post _ _ F1 _ k1 (s1.trans (Step.own f1 hp)) (same_own f1 hp) ((rv_new f1 hp (dpa_rev h2)).base s1.h)⟩⟩
      · rename_i ds e
        obtain ⟨a, xs, e1, h1, h2⟩ := rv_tup v1 e
        exact ⟨a, xs, e1, .inr ⟨SqT.mono f1 h1, fun p o ho hp => post _ _ _ _ k1 (s1.trans (Step.new f1 hp)) (same_new f1) (dq_new f1 hp ho (dpa_rev h2))⟩⟩
      · exact k1.elim
    · cases h
  | .isB b neg a, X, W, g, x, h => by
    unfold ckE at h
    split at h
    · rename_i p o c j cp pos
      obtain ⟨h, h3⟩ := ba h
      obtain ⟨h1, h2⟩ := ba h
      have e := of_decide_eq_true h1
      have e' := of_decide_eq_true h2
      subst e e'
      have sa := (sE a X W g _ h3).pe
      have im : ∀ σ H Q, tE X.K T W (wE G (.isB c neg a)) σ H Q → tE X.K T W (wE G a) σ H fun x H1 => ∃ d : Bool, x = .bl d ∧ Q (.bl (neg != decide (d = c))) H1 := fun σ H Q q => by
        obtain ⟨F0, H0, F, ρ, Ex, P, sx, q, post⟩ := q
        refine (run1 (w := wE G a) sx q).mono fun y H1 ⟨F1, r, s1, f1, v1, k1⟩ => ?_
        have k1 : wIsB c neg r P := k1
        cases r with
        | l ds fr => exact k1.elim
        | d d =>
          cases d with
          | bool d => exact ⟨d, rv_bool v1, post _ _ F1 H1 k1 s1 f1 (Dq.bl _)⟩
          | _ => exact k1.elim
      cases neg with
      | false =>
        have im2 : ∀ σ H Q, tE X.K T W (wE G (.isB c false a)) σ H Q → tOp rIsB (tE X.K T W (wE G a)) (tC (.bl c)) σ H Q := fun σ H Q q => (im σ H Q q).mono fun x H1 ⟨d, e, z⟩ => ⟨d, c, e, rfl, by simpa using z⟩
        exact ⟨PE.imp (pe_cmpR op_isBl sa pe_bl rfl) im2, PT.imp (pt_cmpR op_isBl sa pe_bl rfl) fun σ H Q q => im2 σ H _ q, fun z => by cases z⟩
      | true =>
        have im2 : ∀ σ H Q, tE X.K T W (wE G (.isB c true a)) σ H Q → tOp rNotB (tE X.K T W (wE G a)) (tC (.bl c)) σ H Q := fun σ H Q q => (im σ H Q q).mono fun x H1 ⟨d, e, z⟩ => ⟨d, c, e, rfl, by simpa using z⟩
        exact ⟨PE.imp (pe_cmpR op_notBl sa pe_bl rfl) im2, PT.imp (pt_cmpR op_notBl sa pe_bl rfl) fun σ H Q q => im2 σ H _ q, fun z => by cases z⟩
    · cases h
  | .srt a, X, W, g, x, h => by
    unfold ckE at h
    split at h
    · obtain ⟨h, h4⟩ := ba h
      obtain ⟨h, h3⟩ := ba h
      obtain ⟨hc, h1⟩ := ba h
      obtain ⟨e, g1, g2⟩ := ckG_ok h1
      subst e
      refine Snd.of (PE.imp (pe_callB (cr_srtD (by have := g.hu; omega)) (Gl_of g1) (g.bo "sorted" (by decide)) PyProof.Rows.boot_sorted (pa_cons (sE a X W g _ h4).pe pa_nil (starNo h3)) (by decide) g2 (starNo h3) rfl) fun σ H Q q => ?_) rfl
      obtain ⟨F0, H0, F, ρ, Ex, P, sx, q, post⟩ := q
      refine (run1 (w := wE G a) sx q).mono fun y H1 ⟨F1, r, s1, f1, v1, k1⟩ => ?_
      obtain ⟨ds, e, al, so, dp, k1⟩ := k1
      obtain ⟨a, xs, e1, h1, h2⟩ := rv_list f1 v1 e
      subst e1
      refine ⟨a, xs, ds, rfl, .inl h1, (DqAll.dp _ _ (dpa_mono f1 h2)).1, al, so, dp, fun zs pm em p hp => ?_⟩
      have hz : DqAll X.K F1 (zs.map (·.1)) (ds.mergeSort (PySem.W.dataLe false id)) := by
        rw [← em]
        exact dqa_of fun z hz => srt_zip h2 z (pm.mem_iff.mp hz)
      exact post _ _ F1 _ k1 (s1.trans (Step.own f1 hp)) (same_own f1 hp) ((rv_new f1 hp hz).base s1.h)
    · cases h
  | .best mx a, X, W, g, x, h => by
    unfold ckE at h
    split at h
    · obtain ⟨h, h4⟩ := ba h
      obtain ⟨h, h3⟩ := ba h
      obtain ⟨hc, h1⟩ := ba h
      obtain ⟨e, g1, g2⟩ := ckG_ok h1
      have hu := g.hu
      have im : ∀ (b : D → List D → D), (∀ (d : D) (ds : List D), (if mx then PySem.W.maxD d ds else PySem.W.minD d ds) = b d ds) → ∀ σ H Q, tE X.K T W (wE G (.best mx a)) σ H Q → tCB (rBestD X.K b) (tCons (tE X.K T W (wE G a)) tNil) σ H Q := fun b hb σ H Q q => by
        obtain ⟨F0, H0, F, ρ, Ex, P, sx, q, post⟩ := q
        refine (run1 (w := wE G a) sx q).mono fun y H1 ⟨F1, r, s1, f1, v1, k1⟩ => ?_
        obtain ⟨d, ds, e, al, dp, k1⟩ := k1
        rw [hb] at k1
        rcases e with e | e
        · obtain ⟨a, xs, e1, h1, h2⟩ := rv_list f1 v1 e
          subst e1
          have q2 := DqAll.dp _ _ (dpa_mono f1 h2)
          refine ⟨a, xs, d, ds, rfl, .inl (.inl h1), q2.1, q2.2, al, dp, fun i x hx hm => ?_⟩
          obtain ⟨d', e3, e4⟩ := dpa_get' h2 hx
          rw [hm] at e3
          cases e3
          exact post _ _ F1 H1 k1 s1 f1 e4
        · obtain ⟨a, xs, e1, h1, h2⟩ := rv_tup v1 e
          subst e1
          have q2 := DqAll.dp _ _ (dpa_mono f1 h2)
          refine ⟨a, xs, d, ds, rfl, .inr (SqT.mono f1 h1), q2.1, q2.2, al, dp, fun i x hx hm => ?_⟩
          obtain ⟨d', e3, e4⟩ := dpa_get' h2 hx
          rw [hm] at e3
          cases e3
          exact post _ _ F1 H1 k1 s1 f1 e4
      have pa1 : PA X [_] (tCons (tE X.K T W (wE G a)) tNil) := pa_cons (sE a X W g _ h4).pe pa_nil (starNo h3)
      cases mx with
      | false =>
        have e : _ = ("min" : Str) := e
        subst e
        exact Snd.of (PE.imp (pe_callB (cr_minD (g.calm hc) (by omega)) (Gl_of g1) (g.bi .min1) PyProof.Rows.boot_min pa1 (by decide) g2 (starNo h3) rfl) (im _ fun _ _ => rfl)) rfl
      | true =>
        have e : _ = ("max" : Str) := e
        subst e
        exact Snd.of (PE.imp (pe_callB (cr_maxD (g.calm hc) (by omega)) (Gl_of g1) (g.bi .max1) PyProof.Rows.boot_max pa1 (by decide) g2 (starNo h3) rfl) (im _ fun _ _ => rfl)) rfl
    · cases h
  | .tix a b, X, W, g, x, h => by
    unfold ckE at h
    split at h
    · rename_i o name apos p cp
      obtain ⟨h, h6⟩ := ba h
      obtain ⟨h, h5⟩ := ba h
      obtain ⟨h, h4⟩ := ba h
      obtain ⟨h, h3⟩ := ba h
      obtain ⟨h1, h2⟩ := ba h
      have e := of_decide_eq_true h1
      subst e
      refine Snd.of (PE.imp (pe_tixX (by have := g.hu; omega) (sE a X W g _ h5).pe (sE b X W g _ h6).pe h3 h4 h2) fun σ H Q q => ?_) rfl
      obtain ⟨F0, H0, F, ρ, Ex, P, sx, q, post⟩ := q
      refine (run1 (w := wE G a) sx q).mono fun y H1 ⟨F1, r, s1, f1, v1, k1⟩ => ?_
      obtain ⟨⟨d, ds, e0, e00⟩, k1⟩ := k1
      obtain ⟨l0, xs0, e01, e02, e03, e04⟩ := rv_tupN v1 e0
      refine ⟨⟨l0, xs0, e01, SqT.mono f1 e02, (e03 e00).mono f1⟩, ?_⟩
      refine (run1 (w := wE G b) (sx.step s1 f1) k1).mono fun z H2 ⟨F2, s, s2, f2, v2, k2⟩ => ?_
      obtain ⟨vs, v, e1, e2, hm, k2⟩ := k2
      obtain ⟨l, xs, e3, p1, p2⟩ := rv_tup (v1.step s2) e1
      subst e3
      have q2 := DqAll.dp _ _ (dpa_mono f2 p2)
      have q3 := Dq.dp _ _ (v2.look f2)
      rw [e2] at q3
      exact ⟨l, z, xs, vs, v, rfl, rfl, SqT.mono f2 p1, q2.1, q3.1, hm, post _ _ F2 H2 k2 (s1.trans s2) f2 (Dq.int _)⟩
    · cases h
  | .lset a, X, W, g, x, h => by
    unfold ckE at h
    split at h
    · rename_i y yp z zp p q pos
      obtain ⟨h, h4⟩ := ba h
      obtain ⟨h, h3⟩ := ba h
      obtain ⟨h, h2⟩ := ba h
      obtain ⟨hc, h1⟩ := ba h
      obtain ⟨e, g1, g2⟩ := ckG_ok h1
      obtain ⟨e', g1', g2'⟩ := ckG_ok h2
      subst e e'
      refine Snd.of (PE.imp (pe_lset (g.calm hc) (by have := g.hu; omega) (Gl_of g1) (g.bi .len) (Gl_of g1') (g.bo "set" (by decide)) (sE a X W g _ h4).pe (starNo h3)) fun σ H Q q => ?_) rfl
      obtain ⟨F0, H0, F, ρ, Ex, P, sx, q, post⟩ := q
      refine (run1 (w := wE G a) sx q).mono fun y H1 ⟨F1, r, s1, f1, v1, k1⟩ => ?_
      obtain ⟨vs, hv, few, k1⟩ := k1
      have fin : ∀ xs : List V, DqAll X.K F1 xs (vs.map vD) → ∃ ks : List (Addr × List Int), xs = refsV ks ∧ (∀ p ∈ ks, SqT X.K H1 p.1 (p.2.map V.int) ∧ p.2.length = 2) ∧ ks.length ≤ 2047 ∧
          ∀ L : List (Addr × List Int), (∀ q ∈ L, q ∈ ks) → (∀ q ∈ ks, q.2 ∈ L.map (·.2)) → (L.map (·.2)).Nodup → Q (.int (L.length : Nat)) H1 := fun xs hd => by
        obtain ⟨ks, e, a, b⟩ := vs_keys hd
        refine ⟨ks, e, fun p hp => ⟨SqT.mono f1 (a p hp).1, (a p hp).2⟩, by rw [← List.length_map (as := ks) fun p => prI p.2, b]; exact few, fun L sub all nd => ?_⟩
        obtain ⟨o1, o2⟩ := lset_out (fun p hp => (a p hp).2) b sub all nd
        have := post _ (.int (L.length : Nat)) F1 H1 (k1 _ o1 o2) s1 f1 (by rw [List.length_map]; exact Dq.int _)
        exact this
      rcases hv with e | e
      · obtain ⟨a, xs, e1, h1, h2⟩ := rv_list f1 v1 e
        obtain ⟨ks, e2, b1, b2, b3⟩ := fin xs h2
        exact ⟨a, ks, e1, .inl (by rw [← e2]; exact .inl h1), b1, b2, b3⟩
      · obtain ⟨a, xs, e1, h1, h2⟩ := rv_tup v1 e
        obtain ⟨ks, e2, b1, b2, b3⟩ := fin xs h2
        exact ⟨a, ks, e1, .inr (by rw [← e2]; exact SqT.mono f1 h1), b1, b2, b3⟩
    · cases h
  | .st2 k a, X, W, g, x, h => by
    unfold ckE at h
    split at h
    · rename_i p l c cj cp sp pos
      obtain ⟨h, h3⟩ := ba h
      obtain ⟨h1, h2⟩ := ba h
      have e := of_decide_eq_true h1
      subst e
      have lo : ∃ o : Option Int, (o = none ∧ k = 0 ∨ o = some ((k - 1 : Nat) : Int)) ∧ PO X l (fun σ H R => R o H) := by
        split at h2
        · exact ⟨none, .inl ⟨rfl, of_decide_eq_true h2⟩, PO.imp po_none fun σ H R q => q⟩
        · obtain ⟨h4, h5⟩ := ba h2
          have e := of_decide_eq_true h5
          subst e
          exact ⟨_, .inr rfl, PO.imp (po_some pe_int) fun σ H R q => ⟨_, rfl, q⟩⟩
        · cases h2
      obtain ⟨o, ho, po⟩ := lo
      have ho : o = none ∧ k - 1 = 0 ∨ o = some ((k - 1 : Nat) : Int) := ho.imp (fun z => ⟨z.1, by rw [z.2]⟩) id
      refine Snd.of (PE.imp (pe_st2 (k := k - 1) po ho (sE a X W g _ h3).pe) fun σ H Q q => ?_) rfl
      obtain ⟨F0, H0, F, ρ, Ex, P, sx, q, post⟩ := q
      refine (run1 (w := wE G a) sx q).mono fun y H1 ⟨F1, r, s1, f1, v1, k1⟩ => ?_
      have k1 : wSt2 k r P := k1
      unfold wSt2 at k1
      split at k1
      · rename_i ds e
        obtain ⟨a, xs, e1, h1, h2⟩ := rv_list f1 v1 e
        exact ⟨a, xs, e1, .inl h1, fun p hp => post _ _ F1 _ k1 (s1.trans (Step.own f1 hp)) (same_own f1 hp) ((rv_new f1 hp (dpa_evr h2)).base s1.h)⟩
      · exact k1.elim
    · cases h
  | .lzip a b, X, W, g, x, h => by
    unfold ckE at h
    split at h
    · obtain ⟨h, h6⟩ := ba h
      obtain ⟨h, h5⟩ := ba h
      obtain ⟨h, h4⟩ := ba h
      obtain ⟨h, h3⟩ := ba h
      obtain ⟨h, h2⟩ := ba h
      obtain ⟨hc, h1⟩ := ba h
      obtain ⟨e, g1, g2⟩ := ckG_ok h1
      obtain ⟨e', g1', g2'⟩ := ckG_ok h2
      subst e e'
      refine Snd.of (PE.imp (pe_listZip (g.calm hc) (Gl_of g1) (g.bo "list" (by decide)) (Gl_of g1') (g.bo "zip" (by decide)) (pa_cons (sE a X W g _ h5).pe (pa_cons (sE b X W g _ h6).pe pa_nil (starNo h4)) (starNo h3)) (starNo h3) (by rw [starNo h4]; rfl) rfl) fun σ H Q q => ?_) rfl
      obtain ⟨F0, H0, F, ρ, Ex, P, sx, q, post⟩ := q
      refine (run1 (w := wE G a) sx q).mono fun y H1 ⟨F1, r, s1, f1, v1, k1⟩ => ?_
      refine (run1 (w := wE G b) (sx.step s1 f1) k1).mono fun z H2 ⟨F2, s, s2, f2, v2, k2⟩ => ?_
      have v1' := v1.step s2
      have v2' := v2.base s1.h
      obtain ⟨ds, es, c1, c2, k2⟩ := wZip_inv k2
      obtain ⟨a, ta, xs, F3, e3, p1, p2, p3, p4, p5, p6⟩ := seq_atS v1' (Same.refl _) f2 c1
      obtain ⟨a', tb, ys, F4, e4, q1, q2, q3, q4, q5, q6⟩ := seq_atS v2' p1 p2 c2
      subst e3 e4
      refine ⟨a, a', ta, tb, xs, ys, rfl, p5, q5, fun p ts os hp hts pn nd hd lt lo => ?_⟩
      have s4 := step_frz (step_frz (s1.trans s2) p1 p3) q1 q3
      have fts : ∀ t ∈ ts, F4 t = none := fun t ht => Same.free q2 (hts t ht)
      have lp : layT H2 ts os xs ys p = none := by rw [layT_off _ _ _ _ _ pn]; exact hp
      have sF := layT_old (os := os) (xs := xs) (ys := ys) fts
      have sH := layT_old (os := os) (xs := xs) (ys := ys) hts
      refine post _ _ (layT F4 ts os xs ys) _ k2 (s4.trans ⟨sF, sH.trans (same_upd lp), fun b hb hf => ?_⟩) ((layT_le ts os xs ys _ _ q2 hts nd).trans (same_upd lp)) ⟨p, ts.map V.ref, rfl, upd_same, ?_, ?_, fun _ => Same.free s4.h hp⟩
      · rw [layT_off _ _ _ _ _ fun z => hb (hts b z)]
        exact hf
      · exact dqa_layT ts os xs ys ds es F4 fts nd hd lt lo (dpa_mono q1 p4) q4
      · rw [layT_off _ _ _ _ _ pn]
        exact Same.free q2 hp
    · cases h
  | .lrvd a, X, W, g, x, h => by
    unfold ckE at h
    split at h
    · obtain ⟨h, h4⟩ := ba h
      obtain ⟨h, h3⟩ := ba h
      obtain ⟨h, h2⟩ := ba h
      obtain ⟨hc, h1⟩ := ba h
      obtain ⟨e, g1, g2⟩ := ckG_ok h1
      obtain ⟨e', g1', g2'⟩ := ckG_ok h2
      subst e e'
      refine Snd.of (PE.imp (pe_listRev (g.calm hc) (Gl_of g1) (g.bo "list" (by decide)) (Gl_of g1') (g.bo "reversed" (by decide)) (sE a X W g _ h4).pe (starNo h3) rfl) fun σ H Q q => ?_) rfl
      obtain ⟨F0, H0, F, ρ, Ex, P, sx, q, post⟩ := q
      refine (run1 (w := wE G a) sx q).mono fun y H1 ⟨F1, r, s1, f1, v1, k1⟩ => ?_
      split at k1
      · rename_i ds e
        obtain ⟨a, xs, e1, h1, h2⟩ := rv_list f1 v1 e
        exact ⟨a, xs, e1, .inl h1, fun p hp => post _ _ F1 _ k1 (s1.trans (Step.own f1 hp)) (same_own f1 hp) ((rv_new f1 hp (dpa_rev h2)).base s1.h)⟩
      · exact k1.elim
    · cases h
  | .lix a b, X, W, g, x, h => by
    unfold ckE at h
    split at h
    · rename_i o name apos p cp
      obtain ⟨h, h6⟩ := ba h
      obtain ⟨h, h5⟩ := ba h
      obtain ⟨h, h4⟩ := ba h
      obtain ⟨h, h3⟩ := ba h
      obtain ⟨h1, h2⟩ := ba h
      have e := of_decide_eq_true h1
      subst e
      refine Snd.of (PE.imp (pe_lixX (by have := g.hu; omega) (sE a X W g _ h5).pe (sE b X W g _ h6).pe h3 h4 h2) fun σ H Q q => ?_) rfl
      obtain ⟨F0, H0, F, ρ, Ex, P, sx, q, post⟩ := q
      refine (run1 (w := wE G a) sx q).mono fun y H1 ⟨F1, r, s1, f1, v1, k1⟩ => ?_
      obtain ⟨⟨ds0, e0⟩, k1⟩ := k1
      obtain ⟨l0, xs0, e01, e02, e03⟩ := rv_list f1 v1 e0
      subst e01
      refine ⟨.inl ⟨rfl, _, .inl e02⟩, ?_⟩
      refine (run1 (w := wE G b) (sx.step s1 f1) k1).mono fun z H2 ⟨F2, s, s2, f2, v2, k2⟩ => ?_
      obtain ⟨ds, j, zz, e1, h7, h8, h9, h10, h11, k2⟩ := k2
      have q2 := Dq.dp _ _ ((v1.step s2).look f2)
      rw [e1] at q2
      have q3 := Dq.dp _ _ (v2.look f2)
      exact ⟨l0, z, look s, ds, j, zz, rfl, rfl, q2.1, q3.1, h7, h8, h9, h10, h11, post _ _ F2 H2 k2 (s1.trans s2) f2 (Dq.int _)⟩
    · cases h
  | .lrg a, X, W, g, x, h => by
    unfold ckE at h
    split at h
    · rename_i y yp z zp p q pos
      obtain ⟨h, h4⟩ := ba h
      obtain ⟨h, h3⟩ := ba h
      obtain ⟨h, h2⟩ := ba h
      obtain ⟨hc, h1⟩ := ba h
      obtain ⟨e, g1, g2⟩ := ckG_ok h1
      obtain ⟨e', g1', g2'⟩ := ckG_ok h2
      subst e e'
      refine Snd.of (PE.imp (pe_listRg (g.calm hc) (Gl_of g1) (g.bo "list" (by decide)) (prg_1 (Gl_of g1') (g.bo "range" (by decide)) (sE a X W g _ h4).pe (starNo h3)) rfl) fun σ H Q q => ?_) rfl
      obtain ⟨F0, H0, F, ρ, Ex, P, sx, q, post⟩ := q
      refine (run1 (w := wE G a) sx q).mono fun y H1 ⟨F1, r, s1, f1, v1, k1⟩ => ?_
      have k1 : wLrg r P := k1
      unfold wLrg at k1
      split at k1
      · rename_i j _
        obtain ⟨b1, b2, k1⟩ := k1
        have e := rv_int v1
        have hs : (sizeLine : Int) = 16777216 := by decide
        refine ⟨j, e, ⟨by omega, by omega, by omega, by omega, by omega⟩, fun p hp => ?_⟩
        have hd : DqAll X.K F1 (rgV 0 j) ((List.range j.toNat).map fun (k : Nat) => PyData.int (k : Int)) := by
          have := dpa_of_ints (K := X.K) (H := F1) ((List.range j.toNat).map fun (k : Nat) => (k : Int))
          rw [List.map_map, List.map_map] at this
          have e1 : rgV 0 j = List.map (V.int ∘ fun (k : Nat) => (k : Int)) (List.range j.toNat) := by
            unfold rgV
            rw [Int.sub_zero]
            apply List.map_congr_left
            intro k _
            show V.int (0 + (k : Int)) = V.int (k : Int)
            rw [Int.zero_add]
          rw [e1]
          exact this
        exact post _ _ F1 _ k1 (s1.trans (Step.own f1 hp)) (same_own f1 hp) ((rv_new f1 hp hd).base s1.h)
      · exact k1.elim
    · cases h
  | .sfd ix a b, X, W, g, x, h => by
    unfold ckE at h
    split at h
    · rename_i o name apos p cp
      obtain ⟨h, h6⟩ := ba h
      obtain ⟨h, h5⟩ := ba h
      obtain ⟨h, h4⟩ := ba h
      obtain ⟨h, h3⟩ := ba h
      obtain ⟨h1, h2⟩ := ba h
      have e := of_decide_eq_true h1
      subst e
      refine Snd.of (PE.imp (pe_sfdX ix (sE a X W g _ h5).pe (sE b X W g _ h6).pe h3 h4 h2) fun σ H Q q => ?_) rfl
      obtain ⟨F0, H0, F, ρ, Ex, P, sx, q, post⟩ := q
      refine (run1 (w := wE G a) sx q).mono fun y H1 ⟨F1, r, s1, f1, v1, k1⟩ => ?_
      obtain ⟨⟨z0, e0⟩, k1⟩ := k1
      refine ⟨⟨z0, rv_str v1 e0⟩, ?_⟩
      refine (run1 (w := wE G b) (sx.step s1 f1) k1).mono fun z H2 ⟨F2, s, s2, f2, v2, k2⟩ => ?_
      have k2 : wSfd ix r s P := k2
      unfold wSfd at k2
      split at k2
      · have ey := rv_str v1 rfl
        have ez := rv_str v2 rfl
        subst ey ez
        exact ⟨_, _, rfl, rfl, k2.1, post _ _ F2 _ k2.2 (s1.trans s2) f2 (Dq.int _)⟩
      · exact k2.elim
    · cases h
  | .spl a b, X, W, g, x, h => by
    unfold ckE at h
    split at h
    · rename_i o name apos p cp
      obtain ⟨h, h6⟩ := ba h
      obtain ⟨h, h5⟩ := ba h
      obtain ⟨h, h4⟩ := ba h
      obtain ⟨h, h3⟩ := ba h
      obtain ⟨h1, h2⟩ := ba h
      have e := of_decide_eq_true h1
      subst e
      refine Snd.of (PE.imp (pe_splX (sE a X W g _ h5).pe (sE b X W g _ h6).pe h3 h4 h2) fun σ H Q q => ?_) rfl
      obtain ⟨F0, H0, F, ρ, Ex, P, sx, q, post⟩ := q
      refine (run1 (w := wE G a) sx q).mono fun y H1 ⟨F1, r, s1, f1, v1, k1⟩ => ?_
      obtain ⟨⟨z0, e0⟩, k1⟩ := k1
      refine ⟨⟨z0, rv_str v1 e0⟩, ?_⟩
      refine (run1 (w := wE G b) (sx.step s1 f1) k1).mono fun z H2 ⟨F2, s, s2, f2, v2, k2⟩ => ?_
      have k2 : wSpl r s P := k2
      unfold wSpl at k2
      split at k2
      · have ey := rv_str v1 rfl
        have ez := rv_str v2 rfl
        subst ey ez
        exact ⟨_, _, rfl, rfl, k2.1, k2.2.1, fun p hp => post _ _ F2 _ k2.2.2 ((s1.trans s2).trans (Step.own f2 hp)) (same_own f2 hp) ((rv_new f2 hp (dpa_of_strs _)).base (s1.h.trans s2.h))⟩
      · exact k2.elim
    · cases h
  | .jn a b, X, W, g, x, h => by
    unfold ckE at h
    split at h
    · rename_i o name apos p cp
      obtain ⟨h, h6⟩ := ba h
      obtain ⟨h, h5⟩ := ba h
      obtain ⟨h, h4⟩ := ba h
      obtain ⟨h, h3⟩ := ba h
      obtain ⟨h1, h2⟩ := ba h
      have e := of_decide_eq_true h1
      subst e
      refine Snd.of (PE.imp (pe_jnX (sE a X W g _ h5).pe (sE b X W g _ h6).pe h3 h4 h2) fun σ H Q q => ?_) rfl
      obtain ⟨F0, H0, F, ρ, Ex, P, sx, q, post⟩ := q
      refine (run1 (w := wE G a) sx q).mono fun y H1 ⟨F1, r, s1, f1, v1, k1⟩ => ?_
      obtain ⟨⟨z0, e0⟩, k1⟩ := k1
      refine ⟨⟨z0, rv_str v1 e0⟩, ?_⟩
      refine (run1 (w := wE G b) (sx.step s1 f1) k1).mono fun z H2 ⟨F2, s, s2, f2, v2, k2⟩ => ?_
      have k2 : wJn r s P := k2
      unfold wJn at k2
      split at k2
      · have ey := rv_str v1 rfl
        subst ey
        obtain ⟨ys, e, hz, k2⟩ := k2
        rcases e with e | e
        · obtain ⟨l, xs, e1, p1, p2⟩ := rv_list f2 v2 e
          subst e1
          rw [dpa_strs p2] at p1
          exact ⟨_, l, ys, rfl, rfl, .inl (.inl p1), hz, post _ _ F2 H2 k2 (s1.trans s2) f2 (Dq.str _)⟩
        · obtain ⟨l, xs, e1, p1, p2⟩ := rv_tup v2 e
          subst e1
          rw [dpa_strs p2] at p1
          exact ⟨_, l, ys, rfl, rfl, .inr (SqT.mono f2 p1), hz, post _ _ F2 H2 k2 (s1.trans s2) f2 (Dq.str _)⟩
      · exact k2.elim
    · cases h
theorem sEs {T : Tb} {G : Nat → DSp} {n : Nat} {cm : Bool} : ∀ (es : Es) (X : Cx) (W : WX) (g : GX T G n cm W X) (xs : List Expr), ckEs T X.N cm X.env.scope es xs = true → PA X xs (tA X.K T W (wEs G es))
  | .nil, X, W, g, xs, h => by
    unfold ckEs at h
    split at h
    · refine PA.imp pa_nil fun σ H Q q => ?_
      obtain ⟨F0, H0, F, ρ, Ex, P, sx, q, post⟩ := q
      exact post [] [] F H q Step.refl sx.sr.fh rfl
    · cases h
  | .cons e es, X, W, g, xs, h => by
    unfold ckEs at h
    split at h
    · obtain ⟨h, h2⟩ := ba h
      obtain ⟨h0, h1⟩ := ba h
      refine PA.imp (pa_cons (sE e X W g _ h1).pe (sEs es X W g _ h2) (starNo h0)) fun σ H Q q => ?_
      obtain ⟨F0, H0, F, ρ, Ex, P, sx, q, post⟩ := q
      refine (run1 (w := wE G e) sx q).mono fun y H1 ⟨F1, r, s1, f1, v1, k1⟩ => ?_
      refine (runA (w := wEs G es) (sx.step s1 f1) k1).mono fun ys H2 ⟨F2, rs, s2, f2, v2, k2⟩ => ?_
      exact post (r :: rs) (y :: ys) F2 H2 k2 (s1.trans s2) f2 ⟨y, ys, rfl, v1.step s2, v2.base s1.h⟩
    · cases h
theorem sO {T : Tb} {G : Nat → DSp} {n : Nat} {cm : Bool} : ∀ (es : Es) (X : Cx) (W : WX) (g : GX T G n cm W X) (x : Option Expr), ckO T X.N cm X.env.scope es x = true → PO X x (tOO X.K T W (wO G es))
  | .nil, X, W, g, x, h => by
    unfold ckO at h
    split at h
    · refine PO.imp po_none fun σ H Q q => ?_
      obtain ⟨F0, H0, F, ρ, Ex, P, sx, q, post⟩ := q
      exact post none F H q Step.refl sx.sr.fh
    · cases h
  | .cons e es, X, W, g, x, h => by
    unfold ckO at h
    split at h
    · refine PO.imp (po_some (sE e X W g _ h).pe) fun σ H Q q => ?_
      obtain ⟨F0, H0, F, ρ, Ex, P, sx, q, post⟩ := q
      refine (run1 (w := wE G e) sx q).mono fun y H1 ⟨F1, r, s1, f1, v1, k1⟩ => ?_
      split at k1
      · exact ⟨_, rv_int v1, post _ F1 H1 k1 s1 f1⟩
      · exact k1.elim
    · cases h
theorem sCond {T : Tb} {G : Nat → DSp} {n : Nat} {cm : Bool} : ∀ (es : Es) (X : Cx) (g : GX T G n cm W0 X) (xs : List Expr), ckCond T X.N cm X.env.scope es xs = true → PTs X xs (tCd X.K T G es)
  | .nil, X, g, xs, h => by
    unfold ckCond at h
    split at h
    · exact pts_nil
    · cases h
  | .cons e es, X, g, xs, h => by
    unfold ckCond at h
    split at h
    · exact pts_one (sE e X W0 g _ h).pt
    · cases h
theorem sI {T : Tb} {G : Nat → DSp} {n : Nat} {cm : Bool} : ∀ (it : It) (X : Cx) (W : WX) (g : GX T G n cm W X) (t x : Expr), ckIt T X.N cm X.env.scope it t x = true → X.calm = true → PI X t x (tI X.K T W (wI G it)) ∧ ∀ v, foldedSetIterable x X.env v = pure v
  | .ex e, X, W, g, t, x, h, hc => by
    unfold ckIt at h
    obtain ⟨h0, h1⟩ := ba h
    refine ⟨PI.imp (pi_seqS (sE e X W g _ h1).pe) fun σ H R q => ?_, noFold h0⟩
    obtain ⟨F0, H0, F, ρ, Ex, P, sx, q, post⟩ := q
    refine (run1 (w := wE G e) sx q).mono fun y H1 ⟨F1, r, s1, f1, v1, k1⟩ => ?_
    split at k1
    rotate_left 2
    · rename_i z e1
      have e2 := rv_str v1 e1
      subst e2
      exact .inl ⟨z, rfl, post _ false _ F1 H1 k1.2 s1 f1 jseq_str (by rw [strD_len]; exact k1.1)⟩
    · exact k1.elim
    all_goals refine .inr ?_
    · rename_i ds e1
      cases r with
      | d d =>
        have e1 : d = .list ds := e1
        subst e1
        obtain ⟨a, xs, e2, g1, g2⟩ := rv_list f1 v1 rfl
        cases (show Dq X.K F1 y (.list ds) from v1) with
        | lst p1 p2 =>
          exact ⟨_, rfl, .inl ⟨_, .inl (Rd.mono f1 p1), fun hz => post ds false _ F1 H1 k1 s1 f1 (jseq_list (.inl p1) p2) (by rw [← dpa_len p2]; exact hz)⟩⟩
      | l es fr =>
        have e1 : PyData.list es = .list ds := e1
        cases e1
        obtain ⟨a, xs, p1, p2, p3, p4, p5⟩ := v1
        subst p1
        refine ⟨a, rfl, .inl ⟨xs, .inl (.inl p2), fun hz => ?_⟩⟩
        cases fr with
        | false => exact post _ true _ F1 H1 k1 s1 f1 (jseq_listB p2 p3) (by rw [← dpa_len p3]; exact hz)
        | true =>
          refine post _ false _ (upd F1 a (.lst xs)) H1 k1 (step_frz s1 (same_upd p4) fun b hb hf => ?_) (upd_le f1 p2) (jseq_list (.inl (.inl upd_same)) (dpa_mono (same_upd p4) p3)) (by rw [← dpa_len p3]; exact hz)
          rw [upd_ne (fun z => by subst z; exact hb (p5 rfl))]
          exact hf
    · rename_i ds e1
      obtain ⟨a, xs, e2, g1, g2⟩ := rv_tup v1 e1
      subst e2
      exact ⟨a, rfl, .inr ⟨xs, SqT.mono f1 g1, fun hz => post ds false _ F1 H1 k1 s1 f1 (jseq_tup g1 g2) (by rw [← dpa_len g2]; exact hz)⟩⟩
  | .rng1 a, X, W, g, t, x, h, hc => by
    unfold ckIt at h
    split at h
    · obtain ⟨h, h2⟩ := ba h
      obtain ⟨h0, h1⟩ := ba h
      obtain ⟨e, g1, g2⟩ := ckG_ok h0
      subst e
      refine ⟨PI.imp (pi_range1 (Gl_of g1) (g.bo "range" (by decide)) (pa_cons (sE a X W g _ h2).pe pa_nil (starNo h1)) (starNo h1)) fun σ H R q => ?_, noFold rfl⟩
      obtain ⟨F0, H0, F, ρ, Ex, P, sx, q, post⟩ := q
      refine (run1 (w := wE G a) sx q).mono fun y H1 ⟨F1, r, s1, f1, v1, k1⟩ => ?_
      split at k1
      · rename_i j
        obtain ⟨b1, b2, k1⟩ := k1
        have hs : (sizeLine : Int) < 2 ^ 62 := by decide
        have ey := rv_int v1
        subst ey
        exact ⟨j, rfl, b2, Int.lt_of_le_of_lt b1 hs, post _ false _ F1 H1 k1 s1 f1 (jseq_rng 0 j.toNat) (by rw [rng_len]; omega)⟩
      · exact k1.elim
    · cases h
  | .rng2 a b, X, W, g, t, x, h, hc => by
    unfold ckIt at h
    split at h
    · obtain ⟨h, h4⟩ := ba h
      obtain ⟨h, h3⟩ := ba h
      obtain ⟨h, h2⟩ := ba h
      obtain ⟨h0, h1⟩ := ba h
      obtain ⟨e, g1, g2⟩ := ckG_ok h0
      subst e
      refine ⟨PI.imp (pi_range2 (Gl_of g1) (g.bo "range" (by decide)) (pa_cons (sE a X W g _ h3).pe (pa_cons (sE b X W g _ h4).pe pa_nil (starNo h2)) (starNo h1)) (by rw [starNo h1, starNo h2]; rfl) (starNo h2)) fun σ H R q => ?_, noFold rfl⟩
      obtain ⟨F0, H0, F, ρ, Ex, P, sx, q, post⟩ := q
      refine (run1 (w := wE G a) sx q).mono fun y H1 ⟨F1, r, s1, f1, v1, k1⟩ => ?_
      refine (run1 (w := wE G b) (sx.step s1 f1) k1).mono fun z H2 ⟨F2, s, s2, f2, v2, k2⟩ => ?_
      split at k2
      · obtain ⟨b1, b2, k2⟩ := k2
        have ey := rv_int v1
        have ez := rv_int v2
        subst ey ez
        exact ⟨_, _, rfl, b2, post _ false _ F2 H2 k2 (s1.trans s2) f2 (jseq_rng _ _) (by rw [rng_len]; omega)⟩
      · exact k2.elim
    · cases h
  | .rng3 a b c, X, W, g, t, x, h, hc => by
    unfold ckIt at h
    split at h
    · obtain ⟨h, h5⟩ := ba h
      obtain ⟨h, h4⟩ := ba h
      obtain ⟨h, h3⟩ := ba h
      obtain ⟨h, h2⟩ := ba h
      obtain ⟨h0, h1⟩ := ba h
      obtain ⟨e, g1, g2⟩ := ckG_ok h0
      have hk := of_decide_eq_true h1
      subst e hk
      refine ⟨PI.imp (pi_range3 (Gl_of g1) (g.bo "range" (by decide)) (pa_cons (sE a X W g _ h4).pe (pa_cons (sE b X W g _ h5).pe (pa_cons pe_int pa_nil rfl) (starNo h3)) (starNo h2)) (by rw [starNo h2] <;> rfl) (by rw [starNo h3] <;> rfl)) fun σ H R q => ?_, noFold rfl⟩
      obtain ⟨F0, H0, F, ρ, Ex, P, sx, q, post⟩ := q
      refine (run1 (w := wE G a) sx q).mono fun y H1 ⟨F1, r, s1, f1, v1, k1⟩ => ?_
      refine (run1 (w := wE G b) (sx.step s1 f1) k1).mono fun z H2 ⟨F2, s, s2, f2, v2, k2⟩ => ?_
      split at k2
      · obtain ⟨c0, c1, b1, b2, k2⟩ := k2
        have ey := rv_int v1
        have ez := rv_int v2
        subst ey ez
        refine ⟨_, _, _, _, rfl, rgC_pos c0 c1 b2, post _ false _ F2 H2 k2 (s1.trans s2) f2 (jseq_rngC _ _ _) ?_⟩
        rw [rngC_len]
        exact cdiv_sz c0 b1
      · exact k2.elim
    · cases h
  | .enu e, X, W, g, t, x, h, hc => by
    unfold ckIt at h
    split at h
    · obtain ⟨h, h2⟩ := ba h
      obtain ⟨h0, h1⟩ := ba h
      obtain ⟨e', g1, g2⟩ := ckG_ok h0
      subst e'
      refine ⟨PI.imp (PI.inv (pi_enum2 (Gl_of g1) (g.bo "enumerate" (by decide)) (pa_cons (sE e X W g _ h2).pe pa_nil (starNo h1)) (starNo h1))) fun σ H R q => ?_, noFold rfl⟩
      obtain ⟨F0, H0, F, ρ, Ex, P, sx, q, post⟩ := q
      refine (run1 (w := wE G e) sx q).mono fun y H1 ⟨F1, r, s1, f1, v1, k1⟩ => ?_
      split at k1
      · rename_i ds e1
        obtain ⟨a, xs, F2, e2, p1, p2, p3, p4, p5, p6⟩ := seq_at v1 (Same.refl _) f1 e1
        subst e2
        exact .inl ⟨a, xs, rfl, p5, fun lo => post _ _ _ F2 H1 k1 (step_frz s1 p1 p3) p2 (jseq_enum p4 p6) (by rw [enum_len, ← dpa_len p4]; exact lo a xs (.inl p5))⟩
      · rename_i ds e1
        obtain ⟨a, xs, e2, p1, p2⟩ := rv_tup v1 e1
        subst e2
        exact .inr ⟨a, xs, rfl, SqT.mono f1 p1, fun lo => post _ _ _ F1 H1 k1 s1 f1 (jseq_enumT p2 p1) (by rw [enum_len, ← dpa_len p2]; exact lo a xs (.inr (SqT.mono f1 p1)))⟩
      · exact k1.elim
    · cases h
  | .zip a b, X, W, g, t, x, h, hc => by
    unfold ckIt at h
    split at h
    · obtain ⟨h, h4⟩ := ba h
      obtain ⟨h, h3⟩ := ba h
      obtain ⟨h, h2⟩ := ba h
      obtain ⟨h0, h1⟩ := ba h
      obtain ⟨e', g1, g2⟩ := ckG_ok h0
      subst e'
      refine ⟨PI.imp (pi_zipS (Gl_of g1) (g.bo "zip" (by decide)) (pa_cons (sE a X W g _ h3).pe (pa_cons (sE b X W g _ h4).pe pa_nil (starNo h2)) (starNo h1)) (starNo h1) (by rw [starNo h2]; rfl)) fun σ H R q => ?_, noFold rfl⟩
      obtain ⟨F0, H0, F, ρ, Ex, P, sx, q, post⟩ := q
      refine (run1 (w := wE G a) sx q).mono fun y H1 ⟨F1, r, s1, f1, v1, k1⟩ => ?_
      refine (run1 (w := wE G b) (sx.step s1 f1) k1).mono fun z H2 ⟨F2, s, s2, f2, v2, k2⟩ => ?_
      have v1' := v1.step s2
      have v2' := v2.base s1.h
      obtain ⟨ds, es, c1, c2, k2⟩ := wZip_inv k2
      obtain ⟨a, ta, xs, F3, e3, p1, p2, p3, p4, p5, p6⟩ := seq_atS v1' (Same.refl _) f2 c1
      obtain ⟨a', tb, ys, F4, e4, q1, q2, q3, q4, q5, q6⟩ := seq_atS v2' p1 p2 c2
      subst e3 e4
      refine ⟨a, a', ta, tb, xs, ys, rfl, p5, q5, fun lo => ?_⟩
      refine post _ _ _ F4 H2 k2 (step_frz (step_frz (s1.trans s2) p1 p3) q1 q3) q2 (jseq_zipS (dpa_mono q1 p4) q4 fun F5 H5 t1 t2 t3 => ?_) (by rw [zip_len, ← dpa_len p4]; exact Nat.le_trans (Nat.min_le_left _ _) lo)
      refine ⟨p6 F5 H5 (q1.trans t1) t2 fun z => t3 ?_, q6 F5 H5 t1 t2 fun z => t3 ?_⟩
      · rw [z]; rfl
      · rw [z]; exact Bool.or_true _
    · cases h
  | .rvd e, X, W, g, t, x, h, hc => by
    unfold ckIt at h
    split at h
    · obtain ⟨h, h2⟩ := ba h
      obtain ⟨h0, h1⟩ := ba h
      obtain ⟨e', g1, g2⟩ := ckG_ok h0
      subst e'
      refine ⟨PI.imp (PI.inv (pi_revA (Gl_of g1) (g.bo "reversed" (by decide)) (sE e X W g _ h2).pe (starNo h1))) fun σ H R q => ?_, noFold rfl⟩
      obtain ⟨F0, H0, F, ρ, Ex, P, sx, q, post⟩ := q
      refine (run1 (w := wE G e) sx q).mono fun y H1 ⟨F1, r, s1, f1, v1, k1⟩ => ?_
      split at k1
      · rename_i ds e1
        obtain ⟨a, xs, F2, e2, p1, p2, p3, p4, p5, p6⟩ := seq_at v1 (Same.refl _) f1 e1
        subst e2
        exact ⟨a, xs, rfl, .inl ⟨p5, fun lo => post _ _ _ F2 H1 k1 (step_frz s1 p1 p3) p2 (jseq_revG p4 p6) (by rw [List.length_reverse, ← dpa_len p4]; exact lo a xs (.inl p5))⟩⟩
      · rename_i ds e1
        obtain ⟨a, xs, e2, p1, p2⟩ := rv_tup v1 e1
        subst e2
        exact ⟨a, xs, rfl, .inr ⟨SqT.mono f1 p1, fun lo => post _ _ _ F1 H1 k1 s1 f1 (jseq_revT p1 p2) (by rw [List.length_reverse, ← dpa_len p2]; exact lo a xs (.inr (SqT.mono f1 p1)))⟩⟩
      · exact k1.elim
    · cases h
end
end DL
end
section
set_option maxRecDepth 100000
set_option maxHeartbeats 4000000
namespace DL
open PySem PySem.Spec PyProof.Rows L2
def isa (c d : Nat) : Bool := c == d || d == 0 || d == 7
inductive HT where
  | t (ys : List Nat)
  | n (k : Nat)
inductive HI where
  | tst (j : Nat) (ys : List Nat)
  | lst (j : Nat) (is : List HT)
  | add (j : Nat) (is : List HT)
def tval (c : Nat) (ys : List Nat) : Bool := ys.any fun y => y == 99 || isa c y
def hval (c : Nat) (ρ : En) : List HT → (List Bool → Prop) → Prop
  | [], k => k []
  | .t ys :: r, k => hval c ρ r fun bs => k (tval c ys :: bs)
  | .n i :: r, k => match ρ[i]? with
    | some (some (.d (.bool b))) => hval c ρ r fun bs => k ((!b) :: bs)
    | _ => False
def hsem (c : Nat) : List HI → (En → Prop) → En → Prop
  | [], k, ρ => k ρ
  | .tst j ys :: r, k, ρ => hsem c r k (ρ.set j (some (.d (.bool (tval c ys)))))
  | .lst j is :: r, k, ρ => hval c ρ is fun bs => hsem c r k (ρ.set j (some (.l (bs.map PyData.bool) true)))
  | .add j is :: r, k, ρ => match ρ[j]? with
    | some (some (.l es _)) => es.length ≤ 1000 ∧ hval c ρ is fun bs => hsem c r k (ρ.set j (some (.l (es ++ bs.map PyData.bool) true)))
    | _ => False
def xnm (T : Tb) (c : Nat) : Str := if c = 99 then "ValueError" else T.xc c
def ckCls (T : Tb) (sc : Scope) (c : Nat) (x : Str) : Bool := ckG sc (xnm T c) x && (c == 99 || (T.xks.contains c && T.xcs.contains c && !(decide (T.xc c = "ValueError"))))
def ckClss (T : Tb) (sc : Scope) : List Nat → List Expr → Bool
  | [], [] => true
  | c :: cs, e :: es => (match e with
    | .Name x _ => ckCls T sc c x
    | _ => false) && ckClss T sc cs es
  | _, _ => false
def ckTst (T : Tb) (N : List Str) (sc : Scope) (i : Nat) (ys : List Nat) (e : Expr) : Bool := match e with
  | .Call (.Name f _) [.Name n _, C] [] _ => ckG sc "isinstance" f && ckV N sc i n && (match C with
    | .Name x _ => (match ys with
      | [c] => ckCls T sc c x
      | _ => false)
    | .Tuple es _ _ => ckClss T sc ys es && decide (ys.length ≤ 1000)
    | _ => false)
  | _ => false
def ckItem (T : Tb) (N : List Str) (sc : Scope) (i : Nat) (it : HT) (e : Expr) : Bool := match it with
  | .t ys => ckTst T N sc i ys e
  | .n k => (match e with
    | .UnaryOp .Not (.Name x _) _ => ckV N sc k x
    | _ => false)
def ckItems (T : Tb) (N : List Str) (sc : Scope) (i : Nat) : List HT → List Expr → Bool
  | [], [] => true
  | it :: r, e :: es => ckItem T N sc i it e && ckItems T N sc i r es
  | _, _ => false
def ckHI (T : Tb) (N : List Str) (sc : Scope) (i : Nat) (h : HI) (s : Stmt) : Bool := match s with
  | .Assign [.Name y _] v _ => ckN N (match h with | .tst j _ => j | .lst j _ => j | .add j _ => j) y && isLoc (sc.names.lookup y) && (match h with
    | .tst j ys => !(j == i) && ckTst T N sc i ys v
    | .lst j is => !(j == i) && (match v with
      | .List es _ => ckItems T N sc i is es && decide (is.length ≤ 1000)
      | _ => false)
    | .add j is => !(j == i) && (match v with
      | .BinOp (.Name z _) .Add (.List es _) _ => ckV N sc j z && ckItems T N sc i is es && decide (is.length ≤ 1000)
      | _ => false))
  | _ => false
def ckHs (T : Tb) (N : List Str) (sc : Scope) (i : Nat) : List HI → List Stmt → Bool
  | [], [] => true
  | h :: hs, s :: ss => ckHI T N sc i h s && ckHs T N sc i hs ss
  | _, _ => false
end DL
end
section
set_option maxRecDepth 100000
set_option maxHeartbeats 4000000
namespace DL
open PySem PySem.Spec PyProof.Rows L2
def valA (acc : List (Vec × D)) (k : Vec) : Option D := (acc.find? fun p => decide (p.1 = k)).map (·.2)
def putA (acc : List (Vec × D)) (k : Vec) (d : D) : List (Vec × D) :=
  if (acc.any fun p => decide (p.1 = k)) = true then acc.map (fun p => if p.1 = k then (p.1, d) else p) else acc ++ [(k, d)]
def isD (r : R) (k : D → Prop) : Prop := match r with
  | .d x => k x
  | _ => False
def isI (r : R) (k : Int → Prop) : Prop := match r with
  | .d (.int i) => k i
  | _ => False
def dBody (G : Nat → DSp) (js : Nat) (es ex ey : E) (Ex : Nat → En → Prop) (ρ : En) (acc : List (Vec × D)) (d : D) (k : En → List (Vec × D) → Prop) : Prop :=
  wE G es ρ (fun c => Ex c ρ) fun r => isD r fun x => wE G ex (ρ.set js (some (.d x))) (fun c => Ex c (ρ.set js (some (.d x)))) fun a => isI a fun i =>
    wE G ey (ρ.set js (some (.d x))) (fun c => Ex c (ρ.set js (some (.d x)))) fun b => isI b fun j => acc.length ≤ 2046 ∧ k (ρ.set js (some (.d x))) (putA acc (i, j) d)
def dLoop (G : Nat → DSp) (jp js jv : Nat) (es ex ey : E) (Ex : Nat → En → Prop) (fin : List (Vec × D) → Prop) : List D → En → List (Vec × D) → Prop
  | [], ρ, acc => jv < ρ.length ∧ fin acc
  | d :: ds, ρ, acc => jp < ρ.length ∧ dBody G js es ex ey Ex (ρ.set jp (some (.d d))) acc d fun ρ' acc' => dLoop G jp js jv es ex ey Ex fin ds ρ' acc'
def dFin (Q : R → Prop) (acc : List (Vec × D)) : Prop := ∀ (L : List Vec) (vals : List D), L.Perm (acc.map (·.1)) → L.Pairwise (fun q r => SrtO.lexB r q = false) → Paired (fun k d => valA acc k = some d) L vals → Q (.l vals true)
def wDs (G : Nat → DSp) (it : It) (jn jp js jv : Nat) (es ex ey : E) (Ex : Nat → En → Prop) (Rt : R → Prop) (ρ : En) : Prop := jn < ρ.length ∧ wI G it (ρ.set jn none) (fun c => Ex c (ρ.set jn none)) fun ds bor => bor = false ∧
  dLoop G jp js jv es ex ey Ex (fun acc => dFin Rt acc) ds (ρ.set jn none) []
def ckDv (N : List Str) (sc : Scope) (jn jv : Nat) (own : List (Str × Nat)) (e : Expr) : Bool := match e with
  | .ListComp (.Subscript (.Name a _) (.Name b _) _) [⟨.Name c pc, .Call (.Name s _) [.Name d _] [] _, [], asy⟩] scope _ => decide (asy = 0) && ckG sc "sorted" s && ckV N sc jn d && blkC N sc scope own && ckT N scope (own.map (·.2)) (.nm jv) (.Name c pc) && ckV N (relS scope sc) jn a && ckV N (relS scope sc) jv b &&
    !((own.map (·.2)).contains jn) && (own.map (·.2)).contains jv
  | _ => false
def ckDa (T : Tb) (N : List Str) (cm : Bool) (sc : Scope) (js : Nat) (es : E) (s1 : Stmt) : Bool := match s1 with
  | .Assign [.Name b pb] v p3 => ckN N js b && isLoc (sc.names.lookup b) && plainX v && ckE T N cm sc es v && (match v with
    | .ListComp _ _ _ _ => false
    | _ => true)
  | _ => false
def ckDc (T : Tb) (N : List Str) (cm : Bool) (sc : Scope) (jn jp : Nat) (ex ey : E) (s2 : Stmt) : Bool := match s2 with
  | .Assign [.Subscript (.Name c cp) (.Tuple [e1, e2] k tp) sp] (.Name d dp) p4 => ckV N sc jn c && ckV N sc jp d && plainX e1 && plainX e2 && ckE T N cm sc ex e1 && ckE T N cm sc ey e2
  | _ => false
def ckDb (T : Tb) (N : List Str) (cm : Bool) (sc : Scope) (jn jp js : Nat) (es ex ey : E) (s1 s2 : Stmt) : Bool := ckDa T N cm sc js es s1 && ckDc T N cm sc jn jp ex ey s2 && !(js == jn) && !(js == jp) && !(jp == jn)
def ckDs (T : Tb) (N : List Str) (cm : Bool) (sc : Scope) (it : It) (jn jp js jv : Nat) (own : List (Str × Nat)) (es ex ey : E) (st : List Stmt) : Bool := match st with
  | [.Assign [.Name a py] (.Dict [] [] dp) p1, .For t i [sa, sb] [] pos, .Return (some e) p5] => cm && ckN N jn a && isLoc (sc.names.lookup a) && ckT N sc (List.range N.length) (.nm jp) t && ckIt T N cm sc it t i && ckDb T N cm sc jn jp js es ex ey sa sb && ckDv N sc jn jv own e
  | _ => false
def isTi (r : R) (k : List Int → Prop) : Prop := ∃ is : List Int, r = .d (.tuple (is.map .int)) ∧ k is
def wAL (G : Nat → DSp) (j f : Nat) (e : E) (Ex : Nat → En → Prop) (nx : En → Prop) (ρ : En) : Prop := ∃ ds b, ρ[j]? = some (some (R.l ds b)) ∧ wE G e ρ (fun c => Ex c ρ) fun r => frzP r fun x => ds.length < sizeLine ∧
  G f [x, .list ds] (fun r => isTi r fun is => nx (ρ.set j (some (.l (ds ++ [.tuple (is.map .int)]) true)))) (fun c => Ex c ρ)
end DL
end
section
set_option maxRecDepth 100000
set_option maxHeartbeats 4000000
namespace DL
open PySem PySem.Spec PyProof.Rows L2
mutual
inductive S where
  | set (i : Nat) (e : E)
  | tup (is : List Nat) (e : E)
  | par2 (i j : Nat) (a b : E)
  | app (j : Nat) (e : E)
  | ext (j : Nat) (e : E)
  | appL (j f : Nat) (e : E)
  | pop (j : Nat)
  | appP0 (j k : Nat)
  | setP0 (i k : Nat)
  | rev (j : Nat)
  | sset (j : Nat) (k : E) (e : E)
  | ex (e : E)
  | ret (e : E)
  | retN | pass | brk
  | ifs (c : E) (a b : Ss)
  | whl (c : E) (b : Ss)
  | for_ (tg : Tg) (it : It) (b : Ss)
  | rais (c : Nat)
  | try1 (b : Ss) (c : Nat) (h : Ss) (xs : List Nat)
  | tryE (b : Ss) (c i : Nat) (h : List HI) (xs : List Nat)
  | dsrt (it : It) (jn jp js jv : Nat) (own : List (Str × Nat)) (es ex ey : E)
  | frz (i : Nat)
inductive Ss where
  | nil
  | cons (s : S) (ss : Ss)
end
structure DE where
  nx : En → Prop
  rt : R → Prop
  bk : En → Prop
  ex : Nat → En → Prop
def forLoop (st : D → En → (En → Prop) → Prop) (body : DE → En → Prop) (E : DE) : List D → En → Prop
  | [], ρ => E.nx ρ
  | d :: ds, ρ => st d ρ fun ρ2 => body { E with nx := forLoop st body E ds, bk := E.nx } ρ2
def whileLoop (c : En → (Bool → Prop) → Prop) (body : DE → En → Prop) (E : DE) (ρ : En) : Prop :=
  ∃ I : Nat → En → Prop, (∃ n, I n ρ) ∧ ∀ n ρ, I n ρ → c ρ fun b => wIf b (body { E with nx := fun ρ' => ∃ m, m < n ∧ I m ρ', bk := E.nx } ρ) (E.nx ρ)
def stR (i : Nat) (r : R) (ρ : En) (k : En → Prop) : Prop := match r with
  | .d x => k (ρ.set i (some (.d x)))
  | .l ds true => k (ρ.set i (some (.l ds true)))
  | .l _ false => False
def ownAt (ρ : En) (i : Nat) (k : List D → Prop) : Prop := match ρ[i]? with
  | some (some (.l ds _)) => k ds
  | _ => False
def stU (is : List Nat) (r : R) (ρ : En) (k : En → Prop) : Prop := match look r with
  | .tuple ds => (match setAll ρ is ds with
    | some ρ' => k ρ'
    | none => False)
  | .list ds => (match setAll ρ is ds with
    | some ρ' => k ρ'
    | none => False)
  | _ => False
def retR (r : R) (Q : R → Prop) : Prop := match r with
  | .d x => Q (.d x)
  | .l ds true => Q (.l ds true)
  | .l _ false => False
def frzS (i : Nat) (ρ : En) (k : En → Prop) : Prop := match ρ[i]? with
  | some (some (.l ds _)) => k (ρ.set i (some (.d (.list ds))))
  | some (some (.d _)) => k ρ
  | _ => False
mutual
def wS (G : Nat → DSp) : S → DE → En → Prop
  | .set i e, Z, ρ => wE G e ρ (fun c => Z.ex c ρ) fun r => stR i r ρ Z.nx
  | .tup is e, Z, ρ => wE G e ρ (fun c => Z.ex c ρ) fun r => stU is r ρ Z.nx
  | .par2 i j a b, Z, ρ => wE G a ρ (fun c => Z.ex c ρ) fun r => wE G b ρ (fun c => Z.ex c ρ) fun s => frzP r fun x => frzP s fun y => Z.nx ((ρ.set i (some (.d x))).set j (some (.d y)))
  | .app j e, Z, ρ => ownAt ρ j fun ds => wE G e ρ (fun c => Z.ex c ρ) fun r => frzP r fun x => ds.length < sizeLine ∧ Z.nx (ρ.set j (some (.l (ds ++ [x]) true)))
  | .ext j e, Z, ρ => ownAt ρ j fun ds => wE G e ρ (fun c => Z.ex c ρ) fun r => (match r with
    | .l es _ => ds.length + es.length ≤ sizeLine ∧ Z.nx (ρ.set j (some (.l (ds ++ es) true)))
    | _ => False)
  | .pop j, Z, ρ => ownAt ρ j fun ds => ds ≠ [] ∧ Z.nx (ρ.set j (some (.l ds.dropLast true)))
  | .appP0 j k, Z, ρ => ownAt ρ j fun ds => ownAt ρ k fun es => (match es with
    | x :: es => j ≠ k ∧ ds.length < sizeLine ∧ Z.nx ((ρ.set k (some (.l es true))).set j (some (.l (ds ++ [x]) true)))
    | [] => False)
  | .setP0 i k, Z, ρ => ownAt ρ k fun es => (match es with
    | x :: es => Z.nx ((ρ.set k (some (.l es true))).set i (some (.d x)))
    | [] => False)
  | .rev j, Z, ρ => ownAt ρ j fun ds => Z.nx (ρ.set j (some (.l ds.reverse true)))
  | .sset j k e, Z, ρ => ownAt ρ j fun ds => wE G e ρ (fun c => Z.ex c ρ) fun r => wE G k ρ (fun c => Z.ex c ρ) fun s => frzP r fun x => (match s with
    | .d (.int i) => (match ixN ds.length i with
      | some n => Z.nx (ρ.set j (some (.l (ds.set n x) true)))
      | none => False)
    | _ => False)
  | .ex e, Z, ρ => wE G e ρ (fun c => Z.ex c ρ) fun _ => Z.nx ρ
  | .ret e, Z, ρ => wE G e ρ (fun c => Z.ex c ρ) fun r => retR r Z.rt
  | .retN, Z, ρ => Z.rt (.d .none)
  | .pass, Z, ρ => Z.nx ρ
  | .brk, Z, ρ => Z.bk ρ
  | .ifs c a b, Z, ρ => wE G c ρ (fun c => Z.ex c ρ) fun r => wTru r fun k => wIf k (wSs G a Z ρ) (wSs G b Z ρ)
  | .whl c b, Z, ρ => whileLoop (fun ρ k => wE G c ρ (fun c => Z.ex c ρ) fun r => wTru r k) (wSs G b) Z ρ
  | .for_ tg it b, Z, ρ => wI G it ρ (fun c => Z.ex c ρ) fun ds bor => bor = false ∧ forLoop (stT tg) (wSs G b) Z ds ρ
  | .rais c, Z, ρ => Z.ex c ρ
  | .try1 b c h xs, Z, ρ => wSs G b { Z with ex := fun x ρ' => x ∈ xs ∧ wIf (isa x c) (wSs G h { Z with ex := fun _ _ => False } ρ') (Z.ex x ρ') } ρ
  | .tryE b c i h xs, Z, ρ => wSs G b { Z with ex := fun x ρ' => x ∈ xs ∧ i < ρ'.length ∧ wIf (isa x c) (hsem x h (fun ρ2 => Z.nx (ρ2.set i none)) (ρ'.set i none)) (Z.ex x ρ') } ρ
  | .appL j f e, Z, ρ => wAL G j f e Z.ex Z.nx ρ
  | .dsrt it jn jp js jv own es ex ey, Z, ρ => wDs G it jn jp js jv es ex ey Z.ex Z.rt ρ
  | .frz i, Z, ρ => frzS i ρ Z.nx
def wSs (G : Nat → DSp) : Ss → DE → En → Prop
  | .nil, Z, ρ => Z.nx ρ
  | .cons s ss, Z, ρ => wS G s { Z with nx := fun ρ' => wSs G ss Z ρ' } ρ
end
def isTup (e : Expr) : Bool := match e with
  | .Tuple _ _ _ => true
  | _ => false
def someCell (sc : Scope) (es : List Expr) : Bool := es.any fun e => match e with
  | .Name x _ => !(sc.names.lookup x == some .local)
  | _ => false
def ckMeth (T : Tb) (N : List Str) (sc : Scope) (j : Nat) (m : Str) (o : Expr) : Bool := match o with
  | .Attribute (.Name y _) name apos => decide (name = m) && ckV N sc j y
  | _ => false
def aLine (o : Expr) : Nat := match o with
  | .Attribute _ _ apos => apos.endLine
  | _ => 0
mutual
def ckS (T : Tb) (N : List Str) (cm : Bool) (sc : Scope) : S → Stmt → Bool
  | .set i e, s => (match s with
    | .Assign [.Name y py] v pos => ckN N i y && plainX v && ckE T N cm sc e v && (match v with
      | .ListComp _ _ scope lp => (match sc.names.lookup y with
        | some .local => (py.line == lp.line) && !(scope.names.any fun (n, k) => n == y && (k == .local || k == .cell))
        | some .cell => true
        | _ => false)
      | _ => isLoc (sc.names.lookup y))
    | _ => false)
  | .tup is e, s => (match s with
    | .Assign [.Tuple es k tp] v pos => cm && plainX v && (!isTup v || someCell sc es) && ckT N sc (List.range N.length) (.tp is) (.Tuple es k tp) && ckE T N cm sc e v
    | _ => false)
  | .par2 i j a b, s => (match s with
    | .Assign [.Tuple [.Name x px, .Name y py] kt pt] (.Tuple [p, q] k2 pt2) pos => cm && ckN N i x && ckN N j y && !(i == j) && (sc.names.lookup x == some .local) && (sc.names.lookup y == some .local) && !(x == y) && (py.line == px.line) &&
        !([p, q].all (foldedForSure 8)) && !([p, q].all (constantsAlone 8)) && plainX p && plainX q && ckE T N cm sc a p && ckE T N cm sc b q
    | _ => false)
  | .app j e, s => (match s with
    | .Expr (.Call o [p] [] cp) pos => cm && ckMeth T N sc j "append" o && (aLine o == cp.line) && plainX p && ckE T N cm sc e p
    | _ => false)
  | .ext j e, s => (match s with
    | .Expr (.Call o [p] [] cp) pos => cm && ckMeth T N sc j "extend" o && (aLine o == cp.line) && plainX p && ckE T N cm sc e p
    | _ => false)
  | .appL j f e, s => (match s with
    | .Expr (.Call o [.Call (.Name z _) [p, .Name y _] [] _] [] cp) pos => cm && ckMeth T N sc j "append" o && (aLine o == cp.line) && T.fns.contains f && ckG sc (T.fn f) z && ckV N sc j y && ckE T N cm sc e p && plainX p
    | _ => false)
  | .pop j, s => (match s with
    | .Expr (.Call o [] [] cp) pos => cm && ckMeth T N sc j "pop" o && (aLine o == cp.line)
    | _ => false)
  | .appP0 j k, s => (match s with
    | .Expr (.Call o [.Call o2 [.Constant (.int c) _ _] [] cp2] [] cp) pos => cm && ckMeth T N sc j "append" o && (aLine o == cp.line) && ckMeth T N sc k "pop" o2 && (aLine o2 == cp2.line) && decide (c = 0)
    | _ => false)
  | .setP0 i k, s => (match s with
    | .Assign [.Name y py] (.Call o2 [.Constant (.int c) _ _] [] cp2) pos => cm && ckN N i y && isLoc (sc.names.lookup y) && ckMeth T N sc k "pop" o2 && (aLine o2 == cp2.line) && decide (c = 0)
    | _ => false)
  | .rev j, s => (match s with
    | .Expr (.Call o [] [] cp) pos => cm && ckMeth T N sc j "reverse" o && (aLine o == cp.line)
    | _ => false)
  | .sset j k e, s => (match s with
    | .Assign [.Subscript (.Name y yp) i sp] v pos => ckV N sc j y && plainX v && plainX i && ckE T N cm sc e v && ckE T N cm sc k i
    | _ => false)
  | .ex e, s => (match s with
    | .Expr v pos => plainX v && ckE T N cm sc e v && (match v with
      | .ListComp _ _ _ _ => false
      | _ => true)
    | _ => false)
  | .ret e, s => (match s with
    | .Return (some v) pos => ckE T N cm sc e v
    | _ => false)
  | .retN, s => (match s with
    | .Return none pos => true
    | _ => false)
  | .pass, s => (match s with
    | .Pass _ => true
    | _ => false)
  | .brk, s => (match s with
    | .Break _ => true
    | _ => false)
  | .ifs c a b, s => (match s with
    | .If e p q pos => ckE T N cm sc c e && ckSs T N cm sc a p && ckSs T N cm sc b q
    | _ => false)
  | .whl c b, s => (match s with
    | .While e p [] pos => cm && ckE T N cm sc c e && ckSs T N cm sc b p
    | _ => false)
  | .for_ tg it b, s => (match s with
    | .For t i p [] pos => cm && ckT N sc (List.range N.length) tg t && ckIt T N cm sc it t i && ckSs T N cm sc b p
    | _ => false)
  | .rais c, s => (match s with
    | .Raise (some (.Call (.Name x p) [.Constant (.str m) j p2] [] cp)) none pos => cm && T.xcs.contains c && ckG sc (T.xc c) x
    | _ => false)
  | .try1 b c h xs, s => (match s with
    | .Try p [.ExceptHandler (some (.Name x np)) none (q :: qs) pos'] [] [] pos => cm && xs.all (T.xcs.contains ·) && T.xcs.contains c && ckG sc (T.xc c) x && ckSs T N cm sc b p && ckSs T N false sc h (q :: qs)
    | _ => false)
  | .tryE b c i h xs, s => (match s with
    | .Try p [.ExceptHandler (some (.Name x np)) (some n) (q :: qs) pos'] [] [] pos => cm && xs.all (fun z => T.xcs.contains z && T.xks.contains z) && T.xcs.contains c && ckG sc (T.xc c) x && ckSs T N cm sc b p && ckHs T N sc i h (q :: qs) && ckN N i n && (sc.names.lookup n == some .local)
    | _ => false)
  | .dsrt .., s => false
  | .frz i, s => false
def ckSs (T : Tb) (N : List Str) (cm : Bool) (sc : Scope) : Ss → List Stmt → Bool
  | .nil, x => (match x with
    | [] => true
    | _ => false)
  | .cons s ss, x => (match s with
    | .frz i => ckSs T N cm sc ss x
    | .dsrt it jn jp js jv own es ex ey => (match ss with
      | .nil => ckDs T N cm sc it jn jp js jv own es ex ey x
      | _ => false)
    | _ => (match x with
      | p :: ps => ckS T N cm sc s p && ckSs T N cm sc ss ps
      | [] => false))
end
end DL
end
section
set_option maxRecDepth 100000
set_option maxHeartbeats 4000000
namespace DL
open PySem PySem.Spec PyProof.Rows L2 RZ RT
structure XcT (T : Tb) (X : Cx) (c : Nat) : Prop where
  at_ : X.mg (T.xc c) = some (clsV X.K T c)
  exc : PySem.W.excIn X.K (He.ga X.K (T.xc c)) He.veBase "ValueError.__new__" = true
  keep : PySem.W.keepIn X.K (clsV X.K T c) = true
  sub : PySem.W.subIn X.K (clsV X.K T c) (.type "BaseException") = some true
  typ : PySem.W.typeIn X.K (clsV X.K T c) = some (.type "type")
structure XcI (K : PySem.W.Frag) (mg : Str → Option Value) (T : Tb) (c : Nat) : Prop where
  ex : ExcC K (He.ga K (T.xc c))
  ve : PySem.W.kitOne K (clsV K T c) (.type "ValueError") = some true
  xv : mg "ValueError" = none
structure GS (T : Tb) (G : Nat → DSp) (n : Nat) (cm : Bool) (W : WX) (X : Cx) : Prop where
  g : GX T G n cm W X
  pa : PassesOwn (model X.prog X.w) X.A X.env X.xe
  lc : ∀ x, isLoc (X.env.scope.names.lookup x) = true → Loc X.env.scope x ∧ (X.fn x = true ∨ X.env.scope.names.lookup x = some .local)
  st : X.stack = X.env :: X.outer
  fr : X.env.frame = some X.env.locals
  kd : X.env.scope.kind = .function
  xc : ∀ c ∈ T.xcs, XcT T X c
  xm : ∀ c ∈ T.xcs, ∀ d ∈ T.xcs, PySem.W.exmOne X.K (clsV X.K T c) (clsV X.K T d) = some (isa c d)
  xi : ∀ c ∈ T.xks, XcI X.K X.mg T c
structure Lk (K : PySem.W.Frag) (T : Tb) (W : WX) (F0 H0 F : Hp) (Z : DE) (D : Ends) : Prop where
  nx : ∀ ρ' σ' F' H', Same F F' → SR K F0 H0 F' ρ' σ' H' → Z.nx ρ' → D.nx σ' H'
  bk : ∀ ρ' σ' F' H', Same F F' → SR K F0 H0 F' ρ' σ' H' → Z.bk ρ' → D.bk σ' H'
  rt : ∀ r v F' H', Same F F' → Step F0 H0 F' H' → Same F' H' → RV K H0 F' H' r v → Z.rt r → D.rt v H'
  ex : ∀ c ρ' σ' F' H', Same F F' → SR K F0 H0 F' ρ' σ' H' → Z.ex c ρ' → W (clsV K T c) none σ' H'
def tS (K : PySem.W.Frag) (T : Tb) (W : WX) (w : DE → En → Prop) : TS := fun D σ H => ∃ (F0 H0 F : Hp) (ρ : En) (Z : DE), SR K F0 H0 F ρ σ H ∧ w Z ρ ∧ Lk K T W F0 H0 F Z D
section
variable {X : Cx} {K : PySem.W.Frag} {T : Tb} {G : Nat → DSp} {W : WX} {F0 H0 F H F' H' B : Hp} {ρ ρ' : En} {σ σ' : L2.St} {Z : DE} {D : Ends} {n : Nat} {cm : Bool}
theorem PS.imp {st : Stmt} {t t' : TS} (h : PS X st t) (i : ∀ D σ H, t' D σ H → t D σ H) : PS X st t' := ⟨fun pins s σ H D I q => h.run pins s σ H D I (i D σ H q)⟩
theorem PSs.imp {st : List Stmt} {t t' : TS} (h : PSs X st t) (i : ∀ D σ H, t' D σ H → t D σ H) : PSs X st t' := ⟨fun pins s σ H D I q => h.run pins s σ H D I (i D σ H q)⟩
theorem Lk.mono (k : Lk K T W F0 H0 F Z D) (s : Same F F') : Lk K T W F0 H0 F' Z D :=
  ⟨fun ρ σ F2 H2 a b c => k.nx ρ σ F2 H2 (s.trans a) b c, fun ρ σ F2 H2 a b c => k.bk ρ σ F2 H2 (s.trans a) b c, fun r v F2 H2 a b c d e => k.rt r v F2 H2 (s.trans a) b c d e, fun x ρ σ F2 H2 a b c => k.ex x ρ σ F2 H2 (s.trans a) b c⟩
theorem SX.at (sr : SR K F0 H0 F ρ σ H) (k : Lk K T W F0 H0 F Z D) : SX K T W F0 H0 F ρ σ H (fun c => Z.ex c ρ) :=
  ⟨sr, fun c F2 H2 h s f => k.ex c ρ σ F2 H2 s.f (sr.step s f) h⟩
theorem runS {w : En → (Nat → Prop) → (R → Prop) → Prop} {k : R → Prop} (sr : SR K F0 H0 F ρ σ H) (l : Lk K T W F0 H0 F Z D) (h : w ρ (fun c => Z.ex c ρ) k) :
    tE K T W w σ H (fun x H1 => ∃ F1 r, Step F H F1 H1 ∧ Same F1 H1 ∧ RV K H F1 H1 r x ∧ SR K F0 H0 F1 ρ σ H1 ∧ Lk K T W F0 H0 F1 Z D ∧ k r) :=
  (run1 (SX.at sr l) h).mono fun x H1 ⟨F1, r, s1, f1, v1, h1⟩ => ⟨F1, r, s1, f1, v1, sr.step s1 f1, l.mono s1.f, h1⟩
theorem SR.setR (sr : SR K F0 H0 F ρ σ H) {r : R} {x : V} (b0 : Same H0 B) (bn : ∀ (j : Nat) (es : List DL.D) (c : Bool) (a : Addr), ρ[j]? = some (some (R.l es c)) → σ[j]? = some (some (.ref a)) → B a ≠ none) (h : RV K B F H r x) (i : Nat) {k : En → Prop} (w : stR i r ρ k) :
    ∃ ρ', SR K F0 H0 F ρ' (σ.set i (some x)) H ∧ k ρ' := by
  cases r with
  | d d => exact ⟨_, sr.setD h i, w⟩
  | l ds b =>
    cases b with
    | false => exact w.elim
    | true =>
      obtain ⟨a, xs, e, h1, h2, h3, h4⟩ := h
      subst e
      refine ⟨_, sr.setL h1 h2 h3 (Same.free b0 (h4 rfl)) (fun j es c e1 e2 => ?_) i, w⟩
      exact bn j es c a e1 e2 (h4 rfl)
theorem own_nn (sr : SR K F0 H0 F ρ σ H) : ∀ (j : Nat) (es : List DL.D) (c : Bool) (a : Addr), ρ[j]? = some (some (R.l es c)) → σ[j]? = some (some (.ref a)) → H a ≠ none := fun j es c a e1 e2 => by
  obtain ⟨a', xs, g1, g2, _⟩ := sr.own j es c e1
  rw [e2] at g1
  cases g1
  exact ne_none_of g2
theorem ownAt_inv {j : Nat} {k : List DL.D → Prop} (h : ownAt ρ j k) : ∃ ds b, ρ[j]? = some (some (R.l ds b)) ∧ k ds := by
  unfold ownAt at h
  split at h
  · rename_i ds b e
    exact ⟨ds, b, e, h⟩
  · exact h.elim
theorem noSwapCell {e : Expr} {y : Str} {py : Pos} {l : Nat} {env : Env} (h : env.scope.names.lookup y = some .cell) : swapsWith e (some (.Name y py)) l env = pure false := by
  have ky : env.kindOf y = some .cell := h
  cases e <;> first
    | rfl
    | (unfold swapsWith
       simp only [ky]
       cases env.blockKind == ScopeKind.function <;> rfl)
theorem noSwapT {e : Expr} {es : List Expr} {k : Nat} {tp : Pos} {l : Nat} {env : Env} : swapsWithSole [.Tuple es k tp] e l env = pure false := by
  cases e <;> rfl
theorem noSwapSub {e o i : Expr} {tp : Pos} {l : Nat} {env : Env} : swapsWithSole [.Subscript o i tp] e l env = pure false := by
  cases e <;> rfl
theorem noStores {e tg : Expr} {env : Env} (h : isTup e = false) : swappedStores [tg] e env = pure none := by
  cases e <;> first | (cases tg <;> rfl) | (unfold isTup at h; cases h)
theorem noStoresC {e : Expr} {es : List Expr} {k : Nat} {tp : Pos} {env : Env} (h : someCell env.scope es = true) (hn : es.all (fun e => match e with | .Name _ _ => true | _ => false) = true) : swappedStores [.Tuple es k tp] e env = pure none := by
  have key : ∀ line, (es.filterMap fun
    | .Name id pos => if env.kindOf id == some .local && pos.line == line then some id else none
    | _ => none).length ≠ es.length := fun line => by
    have hle : ∀ (l : List Expr), (l.filterMap fun
      | .Name id pos => if env.kindOf id == some .local && pos.line == line then some id else none
      | _ => none).length ≤ l.length := fun l => List.length_filterMap_le _ _
    revert h
    clear hn
    induction es with
    | nil => intro h; cases h
    | cons e es ih =>
      intro h
      unfold someCell at h
      rw [List.any_cons] at h
      rcases Bool.or_eq_true_iff.mp h with z | z
      · cases e with
        | Name x p =>
          have z : (!(env.scope.names.lookup x == some .local)) = true := z
          have z2 : (env.kindOf x == some NameKind.local) = false := by
            show (env.scope.names.lookup x == some .local) = false
            simpa using z
          rw [List.filterMap_cons]
          simp only [z2, Bool.false_and, Bool.false_eq_true, if_false]
          have := hle es
          rw [List.length_cons]
          omega
        | _ => cases z
      · have := ih z
        have h2 := hle es
        rw [List.filterMap_cons]
        split
        · rw [List.length_cons]; omega
        · rw [List.length_cons, List.length_cons]; omega
  cases e with
  | Tuple vs k2 p2 =>
    unfold swappedStores
    simp only []
    have key2 := key ((es.head?.map (·.pos.line)).getD 0)
    split
    · rfl
    · split
      · rfl
      · rw [if_pos]
        rw [Bool.or_eq_true]
        left
        exact bne_iff_ne.mpr key2
  | _ => rfl
end
end DL
end
section
set_option maxRecDepth 100000
set_option maxHeartbeats 4000000
namespace DL
open PySem PySem.Spec PyProof.Rows L2
def rIsET (K : PySem.W.Frag) (D a : Addr) : List V → Hp → VK → Prop := fun xs H Q => ∃ (tp : Addr) (cs : List V) (us : List Value) (b : Bool), xs = [.ref a, .ref tp] ∧ H tp = some (.tup cs) ∧ Paired ClsV cs us ∧ PySem.W.kitAny K (.ref D) us = some b ∧ Q (.bl b) H
theorem call_isET {X : Cx} {a D : Addr} {oe : Obj} {pn : List (Addr × Obj)} (C : ExcC X.K D) (hz : Zc (.ref D) none oe) (hf : ∃ vs, oe.data = .fields vs) : CallR (X.suite a ((a, oe) :: pn)) (.builtin "isinstance") (rIsET X.K D a) := by
  intro pins s σ H xs us Q I r h
  obtain ⟨tp, cs, ws, b, rfl, hT, k, e, q⟩ := h
  cases r with
  | cons rx rr =>
    cases rr with
    | cons rt rr =>
      cases rr
      cases rx
      cases rt
      obtain ⟨hget, _⟩ := I.pin (a, oe) (List.mem_append.mpr (.inl List.mem_cons_self))
      obtain ⟨vs, hv⟩ := hf
      have J : PySem.W.InstAt s.heap a oe D none := by
        obtain ⟨oc, od, oda, osl⟩ := oe
        obtain ⟨h1, h2⟩ := hz
        dsimp only at h1 h2 hv
        subst h1 h2 hv
        exact ⟨hget, rfl, rfl, trivial⟩
      obtain ⟨_, its, rv, o, h1, h2, n, h3⟩ := (show ObjOk X.prog X.w H s.heap tp (.tup cs) from I.hok tp _ hT)
      have e3 := ClsV.all k rv
      subst e3
      obtain ⟨oc, od, dt, sl⟩ := o
      simp only at h2 h3
      subst h2 h3
      exact PySem.W.kia_tup (PySem.W.handS_kitx_exc C.hg C.hk C.hs C.hd C.ha C.hn C.ht C.hm) I.kIn J h1 e (fun z => nomatch z) fun tk => ⟨.bl b, H, I.kept (t' := tk) fun _ _ z => z, rfl, q⟩
def cvV (K : PySem.W.Frag) (y : Str) : V := if y = "ValueError" then .ty "ValueError" else .ref (He.ga K y)
def cvU (K : PySem.W.Frag) (y : Str) : Value := if y = "ValueError" then .type "ValueError" else .ref (He.ga K y)
def cvOk (K : PySem.W.Frag) (mg : Str → Option Value) (y : Str) : Prop := (y = "ValueError" ∧ mg y = none) ∨ (y ≠ "ValueError" ∧ mg y = some (.ref (He.ga K y)))
theorem cv_paired {K : PySem.W.Frag} : ∀ ys : List Str, Paired ClsV (ys.map (cvV K)) (ys.map (cvU K))
  | [] => .nil
  | y :: ys => .cons (by unfold cvV cvU; split <;> constructor) (cv_paired ys)
theorem cv_rel {K : PySem.W.Frag} {y : Str} {u : Value} (h : RelV (cvV K y) u) : u = cvU K y := by
  unfold cvV at h
  unfold cvU
  split at h <;> rename_i q
  · rw [if_pos q]; exact h
  · rw [if_neg q]; exact h
def tT (i : Nat) (a : Addr) (b : Bool) : TE := fun σ H Q => σ[i]? = some (some (.ref a)) ∧ ∀ H', Same H H' → Q (.bl b) H'
section
variable {X : Cx} {a D : Addr} {oe : Obj} {pn : List (Addr × Obj)} {i : Nat} {n : Str} {p np yp pos tp : Pos} {k : Nat}
theorem pe_cls {X : Cx} {y : Str} {yp : Pos} (hg : Gl X y) (hd : (y == ("__debug__" : Str)) = false) (h : cvOk X.K X.mg y) : PE X (.Name y yp) (tC (cvV X.K y)) := by
  rcases h with ⟨e, h⟩ | ⟨e, h⟩
  · subst e
    exact pe_bltn hg h (by rfl) rfl (by decide) hd
  · have e2 : cvV X.K y = .ref (He.ga X.K y) := by unfold cvV; rw [if_neg e]
    rw [e2]
    exact pe_glob hg h rfl hd
theorem pe_tst1 (C : ExcC X.K D) (hz : Zc (.ref D) none oe) (hf : ∃ vs, oe.data = .fields vs) (gi : Gl X "isinstance") (mi : X.mg "isinstance" = none) (hN : X.N[i]? = some n) (hv : Vis X.env.scope n) (h1 : (n == ("__debug__" : Str)) = false) (h2 : (n == ("__classdict__" : Str)) = false)
    {y : Str} (gy : Gl X y) (hd : (y == ("__debug__" : Str)) = false) (cy : cvOk X.K X.mg y) {b : Bool} (e : PySem.W.kitOne X.K (.ref D) (cvU X.K y) = some b) :
    PE (X.suite a ((a, oe) :: pn)) (.Call (.Name "isinstance" p) [.Name n np, .Name y yp] [] pos) (tT i a b) := by
  have pn1 : PE (X.suite a ((a, oe) :: pn)) (.Name n np) (tVar i) := pe_var hN hv h1 h2
  have py1 : PE (X.suite a ((a, oe) :: pn)) (.Name y yp) (tC (cvV X.K y)) := pe_cls (X := X.suite a ((a, oe) :: pn)) gy hd cy
  refine PE.imp (pe_callB (call_isE C hz hf) gi mi PyProof.Rows.boot_isinstance (pa_cons pn1 (pa_cons py1 pa_nil))) fun σ H Q q => ?_
  obtain ⟨q1, q2⟩ := q
  exact ⟨_, q1, _, _, b, rfl, fun u hu => cv_rel hu, e, q2 _ (Same.refl _)⟩
theorem pa_cls : ∀ (ys : List Str) (es : List Expr) (X : Cx), (∀ y ∈ ys, Gl X y ∧ (y == ("__debug__" : Str)) = false ∧ cvOk X.K X.mg y) → Paired (fun y e => ∃ yp, e = Expr.Name y yp) ys es → PA X es (fun σ H Q => Q (ys.map (cvV X.K)) H)
  | [], _, X, _, h => by
    cases h
    exact pa_nil
  | y :: ys, _, X, hy, h => by
    cases h with
    | cons h1 h2 =>
      obtain ⟨yp, rfl⟩ := h1
      obtain ⟨g1, g2, g3⟩ := hy y List.mem_cons_self
      exact pa_cons (pe_cls g1 g2 g3) (pa_cls ys _ X (fun z hz => hy z (List.mem_cons_of_mem _ hz)) h2)
theorem pe_tstN (C : ExcC X.K D) (hz : Zc (.ref D) none oe) (hf : ∃ vs, oe.data = .fields vs) (gi : Gl X "isinstance") (mi : X.mg "isinstance" = none) (hN : X.N[i]? = some n) (hv : Vis X.env.scope n) (h1 : (n == ("__debug__" : Str)) = false) (h2 : (n == ("__classdict__" : Str)) = false)
    {ys : List Str} {es : List Expr} (hy : ∀ y ∈ ys, Gl X y ∧ (y == ("__debug__" : Str)) = false ∧ cvOk X.K X.mg y) (hes : Paired (fun y e => ∃ yp, e = Expr.Name y yp) ys es) (hl : ys.length ≤ 1000) {b : Bool} (e : PySem.W.kitAny X.K (.ref D) (ys.map (cvU X.K)) = some b) :
    PE (X.suite a ((a, oe) :: pn)) (.Call (.Name "isinstance" p) [.Name n np, .Tuple es k tp] [] pos) (tT i a b) := by
  have pn1 : PE (X.suite a ((a, oe) :: pn)) (.Name n np) (tVar i) := pe_var hN hv h1 h2
  have py1 := pe_tup (pos := tp) (x1 := k) (pa_cls ys es (X.suite a ((a, oe) :: pn)) hy hes)
  refine PE.imp (pe_callB (call_isET C hz hf) gi mi PyProof.Rows.boot_isinstance (pa_cons pn1 (pa_cons py1 pa_nil))) fun σ H Q q => ?_
  obtain ⟨q1, q2⟩ := q
  refine ⟨_, q1, Nat.le_trans (by rw [List.length_map]; exact hl) (by decide), fun T hT => ?_⟩
  exact ⟨T, _, _, b, rfl, upd_same, cv_paired ys, e, q2 _ (same_upd hT)⟩
end
theorem SR.setNone {K : PySem.W.Frag} {F0 H0 F H : Hp} {ρ : En} {σ : L2.St} (sr : SR K F0 H0 F ρ σ H) (i : Nat) (x : Option V) : SR K F0 H0 F (ρ.set i none) (σ.set i x) H := by
  have key : ∀ (j : Nat) (r : R), (ρ.set i none)[j]? = some (some r) → j ≠ i ∧ ρ[j]? = some (some r) := fun j r h => by
    by_cases e : j = i
    · subst e
      by_cases hl : j < ρ.length
      · rw [List.getElem?_set_self hl] at h; cases h
      · rw [List.getElem?_eq_none (by rw [List.length_set]; omega)] at h; cases h
    · rw [List.getElem?_set_ne (Ne.symm e)] at h
      exact ⟨e, h⟩
  refine ⟨sr.fh, sr.ent, by rw [List.length_set, List.length_set]; exact sr.len, fun j d h => ?_, fun j ds b h => ?_, fun j k ds es b c a ne h1 h2 h3 => ?_⟩
  · obtain ⟨e, h⟩ := key j _ h
    rw [List.getElem?_set_ne (Ne.symm e)]
    exact sr.val j d h
  · obtain ⟨e, h⟩ := key j _ h
    rw [List.getElem?_set_ne (Ne.symm e)]
    exact sr.own j ds b h
  · obtain ⟨e1, h1⟩ := key j _ h1
    obtain ⟨e2, h2⟩ := key k _ h2
    rw [List.getElem?_set_ne (Ne.symm e1)] at h3
    rw [List.getElem?_set_ne (Ne.symm e2)]
    exact sr.sep j k ds es b c a ne h1 h2 h3
def excB (K : PySem.W.Frag) (D : Addr) : Bool :=
  He.eqO (PySem.W.findIn K (.ref D) "__getattribute__") (some (some (.builtin "BaseException.__getattribute__"))) && He.eqO (PySem.W.findIn K (.ref D) "__getattr__") (some none) &&
  decide (PySem.W.subIn K (.ref D) (.type "BaseException") = some true) && PySem.W.hasDictIn K D && He.eqO (PySem.W.findIn K (.ref D) "__class__") (some (some (.builtin "object.__class__"))) &&
  He.eqO (PySem.W.specialIn K (.builtin "object.__class__") "__get__") (some (some (.builtin "getset_descriptor.__get__"))) && decide (PySem.W.takesIn K (.builtin "object.__class__") = some true) && decide (PySem.W.mroIn K D (.type "object") = some true)
end DL
end
section
set_option maxRecDepth 100000
set_option maxHeartbeats 4000000
namespace DL
open PySem PySem.Spec PyProof.Rows L2
theorem kit_own {K : PySem.W.Frag} {T : Tb} (xm : ∀ c ∈ T.xcs, ∀ d ∈ T.xcs, PySem.W.exmOne K (clsV K T c) (clsV K T d) = some (isa c d)) {c d : Nat} (hc : c ∈ T.xcs) (hd : d ∈ T.xcs) : PySem.W.kitOne K (clsV K T c) (clsV K T d) = some (isa c d) := by
  have e := xm c hc d hd
  have e2 := xm c hc c hc
  have ic : isa c c = true := by simp [isa]
  unfold PySem.W.kitOne
  by_cases q : (clsV K T c == clsV K T d) = true
  · rw [if_pos q]
    rw [← eq_of_beq q, e2, ic] at e
    exact e
  · rw [if_neg q]
    unfold PySem.W.exmOne at e
    split at e
    · exact e
    · cases e
section
variable {T : Tb} {G : Nat → DSp} {n : Nat} {cm : Bool} {W : WX} {X : Cx} {a : Addr} {oe : Obj} {pn : List (Addr × Obj)} {c i : Nat}
theorem cls_at (g : GS T G n cm W X) (hc : c ∈ T.xcs) (I : XcI X.K X.mg T c) {d : Nat} {x : Str} (h : ckCls T X.env.scope d x = true) :
    Gl X x ∧ (x == ("__debug__" : Str)) = false ∧ cvOk X.K X.mg x ∧ PySem.W.kitOne X.K (.ref (He.ga X.K (T.xc c))) (cvU X.K x) = some (d == 99 || isa c d) := by
  unfold ckCls at h
  obtain ⟨h1, h2⟩ := ba h
  obtain ⟨e, g1, g2⟩ := ckG_ok h1
  subst e
  refine ⟨Gl_of g1, g2, ?_⟩
  by_cases q : d = 99
  · subst q
    exact ⟨.inl ⟨rfl, I.xv⟩, I.ve⟩
  · have qb : (d == 99) = false := by simpa using q
    rw [qb] at h2 ⊢
    obtain ⟨h3, h5⟩ := ba (show ((T.xks.contains d && T.xcs.contains d) && !(decide (T.xc d = "ValueError"))) = true from h2)
    obtain ⟨h3, h4⟩ := ba h3
    have hd : d ∈ T.xcs := by simpa using h4
    have nv : T.xc d ≠ "ValueError" := fun z => by rw [decide_eq_true z] at h5; cases h5
    have e : xnm T d = T.xc d := if_neg q
    rw [e]
    refine ⟨.inr ⟨nv, (g.xc d hd).at_⟩, ?_⟩
    unfold cvU
    rw [if_neg nv]
    exact kit_own g.xm hc hd
theorem clss_at (g : GS T G n cm W X) (hc : c ∈ T.xcs) (I : XcI X.K X.mg T c) : ∀ (ys : List Nat) (es : List Expr), ckClss T X.env.scope ys es = true → ∃ xs : List Str, Paired (fun y e => ∃ yp, e = Expr.Name y yp) xs es ∧
    (∀ y ∈ xs, Gl X y ∧ (y == ("__debug__" : Str)) = false ∧ cvOk X.K X.mg y) ∧ xs.length = ys.length ∧ PySem.W.kitAny X.K (.ref (He.ga X.K (T.xc c))) (xs.map (cvU X.K)) = some (tval c ys)
  | [], [], _ => ⟨[], .nil, ⟨fun y h => (nomatch h), rfl, rfl⟩⟩
  | [], _ :: _, h => by cases h
  | _ :: _, [], h => by cases h
  | d :: ys, e :: es, h => by
    unfold ckClss at h
    obtain ⟨h1, h2⟩ := ba h
    cases e <;> first | (cases h1; done) | skip
    rename_i x p
    obtain ⟨k1, k2, k3, k4⟩ := cls_at g hc I h1
    obtain ⟨xs, m1, m2, m3, m4⟩ := clss_at g hc I ys es h2
    refine ⟨x :: xs, .cons ⟨p, rfl⟩ m1, fun y hy => ?_, by rw [List.length_cons, List.length_cons, m3], ?_⟩
    · rcases List.mem_cons.mp hy with h | h
      · rw [h]; exact ⟨k1, k2, k3⟩
      · exact m2 y h
    · rw [List.map_cons]
      unfold PySem.W.kitAny
      rw [k4]
      unfold tval
      rw [List.any_cons]
      cases (d == 99 || isa c d) with
      | true => rfl
      | false => exact m4
theorem tst_at (g : GS T G n cm W X) (hc : c ∈ T.xcs) (I : XcI X.K X.mg T c) (hz : Zc (clsV X.K T c) none oe) (hf : ∃ vs, oe.data = .fields vs) {ys : List Nat} {e : Expr} (h : ckTst T X.N X.env.scope i ys e = true) :
    PE (X.suite a ((a, oe) :: pn)) e (tT i a (tval c ys)) ∧ ∀ (es : List Expr), starEach (e :: es) (X.suite a ((a, oe) :: pn)).env = (false, eval e (X.suite a ((a, oe) :: pn)).env) :: starEach es (X.suite a ((a, oe) :: pn)).env := by
  unfold ckTst at h
  split at h
  · rename_i f fp nm np C pos
    refine ⟨?_, fun _ => rfl⟩
    obtain ⟨h, h3⟩ := ba h
    obtain ⟨h1, h2⟩ := ba h
    obtain ⟨e1, g1, g2⟩ := ckG_ok h1
    subst e1
    obtain ⟨n1, n2, n3, n4⟩ := ckV_ok h2
    split at h3
    · split at h3
      · obtain ⟨k1, k2, k3, k4⟩ := cls_at g hc I h3
        refine PE.imp (pe_tst1 I.ex hz hf (Gl_of g1) (g.g.bo "isinstance" (by decide)) n1 n2 n3 n4 k1 k2 k3 k4) fun σ H Q q => ?_
        unfold tval at q
        rw [List.any_cons, List.any_nil, Bool.or_false] at q
        exact q
      · cases h3
    · obtain ⟨h3, h4⟩ := ba h3
      obtain ⟨xs, m1, m2, m3, m4⟩ := clss_at g hc I _ _ h3
      exact pe_tstN I.ex hz hf (Gl_of g1) (g.g.bo "isinstance" (by decide)) n1 n2 n3 n4 m2 m1 (by rw [m3]; exact of_decide_eq_true h4) m4
    · cases h3
  · cases h
theorem same_step {F H H' : Hp} (fh : Same F H) (s : Same H H') : Step F H F H' ∧ Same F H' := ⟨⟨Same.refl _, s, fun _ _ h => h⟩, fh.trans s⟩
def tHs (K : PySem.W.Frag) (i : Nat) (a : Addr) (c : Nat) (is : List HT) : TA := fun σ H Q => σ[i]? = some (some (.ref a)) ∧ ∃ (F0 H0 F : Hp) (ρ : En) (k : List Bool → Prop), SR K F0 H0 F ρ σ H ∧ hval c ρ is k ∧ ∀ bs H', k bs → Same H H' → bs.length = is.length → Q (bs.map V.bl) H'
theorem items_at (g : GS T G n cm W X) (hc : c ∈ T.xcs) (I : XcI X.K X.mg T c) (hz : Zc (clsV X.K T c) none oe) (hf : ∃ vs, oe.data = .fields vs) : ∀ (is : List HT) (es : List Expr), ckItems T X.N X.env.scope i is es = true → PA (X.suite a ((a, oe) :: pn)) es (tHs X.K i a c is)
  | [], [], _ => PA.imp pa_nil fun σ H Q q => by
    obtain ⟨_, F0, H0, F, ρ, k, sr, w, q⟩ := q
    exact q [] _ w (Same.refl _) rfl
  | [], _ :: _, h => by cases h
  | _ :: _, [], h => by cases h
  | it :: is, e :: es, h => by
    unfold ckItems at h
    obtain ⟨h1, h2⟩ := ba h
    have ih := items_at g hc I hz hf is es h2
    cases it with
    | t ys =>
      obtain ⟨p1, p2⟩ := tst_at (a := a) (pn := pn) g hc I hz hf (show ckTst T X.N X.env.scope i ys e = true from h1)
      refine PA.imp (pa_cons p1 ih (p2 es)) fun σ H Q q => ?_
      obtain ⟨q0, F0, H0, F, ρ, k, sr, w, q⟩ := q
      refine ⟨q0, fun H1 s1 => ⟨q0, F0, H0, F, ρ, _, sr.step (same_step sr.fh s1).1 (same_step sr.fh s1).2, w, fun bs H2 kb s2 l => ?_⟩⟩
      exact q _ H2 kb (s1.trans s2) (by rw [List.length_cons, List.length_cons, l])
    | n kk =>
      unfold ckItem at h1
      cases e <;> first | (cases h1; done) | skip
      rename_i op x p
      cases op <;> first | (cases h1; done) | skip
      cases x <;> first | (cases h1; done) | skip
      rename_i x xp
      obtain ⟨n1, n2, n3, n4⟩ := ckV_ok (show ckV X.N X.env.scope kk x = true from h1)
      refine PA.imp (pa_cons (pe_not (pe_var (X := X.suite a ((a, oe) :: pn)) n1 n2 n3 n4)) ih rfl) fun σ H Q q => ?_
      obtain ⟨q0, F0, H0, F, ρ, k, sr, w, q⟩ := q
      unfold hval at w
      split at w
      · rename_i b eb
        obtain ⟨v, ev, dv⟩ := sr.val _ _ eb
        cases dv
        exact ⟨_, ev, _, rfl, q0, F0, H0, F, ρ, _, sr, w, fun bs H2 kb s2 l => q _ H2 kb s2 (by rw [List.length_cons, List.length_cons, l])⟩
      · exact w.elim
theorem dqa_bools {K : PySem.W.Frag} {F : Hp} : ∀ bs : List Bool, DqAll K F (bs.map V.bl) (bs.map PyData.bool)
  | [] => .nil
  | b :: bs => .cons (Dq.bl b) (dqa_bools bs)
def tHd (K : PySem.W.Frag) (i : Nat) (a : Addr) (c : Nat) (hs : List HI) : TS := fun D σ H => σ[i]? = some (some (.ref a)) ∧ ∃ (F0 H0 F : Hp) (ρ : En) (k : En → Prop), SR K F0 H0 F ρ σ H ∧ hsem c hs k ρ ∧
  ∀ ρ' σ' F' H', Same F F' → SR K F0 H0 F' ρ' σ' H' → k ρ' → D.nx σ' H'
theorem item_at (g : GS T G n cm W X) (hc : c ∈ T.xcs) (I : XcI X.K X.mg T c) (hz : Zc (clsV X.K T c) none oe) (hf : ∃ vs, oe.data = .fields vs) (hi : HI) (st : Stmt) (h : ckHI T X.N X.env.scope i hi st = true) (hs : List HI) :
    PS (X.suite a ((a, oe) :: pn)) st (fun D σ H => σ[i]? = some (some (.ref a)) ∧ ∃ (F0 H0 F : Hp) (ρ : En) (k : En → Prop), SR X.K F0 H0 F ρ σ H ∧ hsem c (hi :: hs) k ρ ∧
      ∀ F' ρ' σ' H', Same F F' → σ'[i]? = some (some (.ref a)) → SR X.K F0 H0 F' ρ' σ' H' → hsem c hs k ρ' → D.nx σ' H') := by
  unfold ckHI at h
  split at h
  · rename_i y py v pos
    obtain ⟨h, h3⟩ := ba h
    obtain ⟨h1, h2⟩ := ba h
    obtain ⟨l1, l2⟩ := g.lc y h2
    have hN : (X.suite a ((a, oe) :: pn)).N.Nodup := g.g.nd
    cases hi with
    | tst j ys =>
      obtain ⟨h4, h5⟩ := ba h3
      have ji : j ≠ i := by simpa using h4
      have hj : X.N[j]? = some y := of_decide_eq_true h1
      obtain ⟨p1, _⟩ := tst_at (a := a) (pn := pn) g hc I hz hf h5
      refine PS.imp (ps_set (X := X.suite a ((a, oe) :: pn)) hN hj l1 p1 (by cases v <;> first | rfl | (unfold ckTst at h5; cases h5)) l2) fun D σ H q => ?_
      obtain ⟨q0, F0, H0, F, ρ, k, sr, w, q⟩ := q
      refine ⟨q0, fun H1 s1 => ?_⟩
      have sr1 := sr.step (same_step sr.fh s1).1 (same_step sr.fh s1).2
      exact q _ _ _ _ (Same.refl _) (by rw [List.getElem?_set_ne ji]; exact q0) (sr1.setD (Dq.bl _) j) w
    | lst j is =>
      obtain ⟨h4, h5⟩ := ba h3
      have ji : j ≠ i := by simpa using h4
      have hj : X.N[j]? = some y := of_decide_eq_true h1
      cases v <;> first | (cases h5; done) | skip
      rename_i es p
      obtain ⟨h5, h6⟩ := ba h5
      have ip := items_at (a := a) (pn := pn) g hc I hz hf is es h5
      refine PS.imp (ps_set (X := X.suite a ((a, oe) :: pn)) hN hj l1 (pe_lst ip) rfl l2) fun D σ H q => ?_
      obtain ⟨q0, F0, H0, F, ρ, k, sr, w, q⟩ := q
      refine ⟨q0, F0, H0, F, ρ, _, sr, w, fun bs H1 kb s1 l => ?_⟩
      have sr1 := sr.step (same_step sr.fh s1).1 (same_step sr.fh s1).2
      refine ⟨by rw [List.length_map, l]; exact Nat.le_trans (of_decide_eq_true h6) (by decide), fun z hz => ?_⟩
      have sr2 := sr1.step (Step.own (o := .lst (bs.map V.bl)) sr1.fh hz) (same_own sr1.fh hz)
      obtain ⟨ρ', sr3, k2⟩ := sr2.setR (B := H1) (r := .l (bs.map PyData.bool) true) (sr1.ent.h) (own_nn sr1) (rv_new sr1.fh hz (dqa_bools bs)) j (k := fun ρ' => ρ' = ρ.set j (some (.l (bs.map PyData.bool) true))) rfl
      subst k2
      exact q _ _ _ _ (Same.refl _) (by rw [List.getElem?_set_ne ji]; exact q0) sr3 kb
    | add j is =>
      obtain ⟨h4, h5⟩ := ba h3
      have ji : j ≠ i := by simpa using h4
      have hj : X.N[j]? = some y := of_decide_eq_true h1
      cases v <;> first | (cases h5; done) | skip
      rename_i e1 op e2 p
      cases e1 <;> first | (cases h5; done) | skip
      cases op <;> first | (cases h5; done) | skip
      cases e2 <;> first | (cases h5; done) | skip
      rename_i z zp es ep
      obtain ⟨h5, h6⟩ := ba h5
      obtain ⟨h5, h7⟩ := ba h5
      obtain ⟨n1, n2, n3, n4⟩ := ckV_ok h5
      have ip := items_at (a := a) (pn := pn) g hc I hz hf is es h7
      refine PS.imp (ps_set (X := X.suite a ((a, oe) :: pn)) hN hj l1 (pe_op (op_addD (X := X.suite a ((a, oe) :: pn))) (pe_var (X := X.suite a ((a, oe) :: pn)) n1 n2 n3 n4) (pe_lst ip)) rfl l2) fun D σ H q => ?_
      obtain ⟨q0, F0, H0, F, ρ, k, sr, w, q⟩ := q
      unfold hsem at w
      split at w
      · rename_i ds b eb
        obtain ⟨w0, w⟩ := w
        obtain ⟨r, xs, g1, g2, g3, g4, g5⟩ := sr.own j ds b eb
        refine ⟨_, g1, q0, F0, H0, F, ρ, _, sr, w, fun bs H1 kb s1 l => ?_⟩
        have sr1 := sr.step (same_step sr.fh s1).1 (same_step sr.fh s1).2
        have l6 : is.length ≤ 1000 := of_decide_eq_true h6
        refine ⟨by rw [List.length_map, l]; exact Nat.le_trans l6 (by decide), fun z hz => ?_⟩
        have st2 := Step.own (o := .lst (bs.map V.bl)) sr1.fh hz
        have sr2 := sr1.step st2 (same_own sr1.fh hz)
        refine ⟨F, H1, .l ds false, .l (bs.map PyData.bool) true, fun t => t = .l (ds ++ bs.map PyData.bool) true, sr2.fh, ⟨r, xs, rfl, st2.h _ _ (s1 _ _ g2), g3, g4, fun z => by cases z⟩, rv_new sr1.fh hz (dqa_bools bs), ?_, fun t v F' H' et st3 f3 rv => ?_⟩
        · exact ⟨Nat.le_trans (Nat.add_le_add w0 (by rw [List.length_map, l]; exact l6)) (by decide), rfl⟩
        · subst et
          have sr3 := sr2.step st3 f3
          obtain ⟨ρ', sr4, k2⟩ := sr3.setR (B := upd H1 z (.lst (bs.map V.bl))) (sr2.ent.h) (own_nn sr2) rv j (k := fun ρ' => ρ' = ρ.set j (some (.l (ds ++ bs.map PyData.bool) true))) rfl
          subst k2
          exact q _ _ _ _ st3.f (by rw [List.getElem?_set_ne ji]; exact q0) sr4 kb
      · exact w.elim
  · cases h
theorem hs_at (g : GS T G n cm W X) (hc : c ∈ T.xcs) (I : XcI X.K X.mg T c) (hz : Zc (clsV X.K T c) none oe) (hf : ∃ vs, oe.data = .fields vs) : ∀ (hs : List HI) (ss : List Stmt), ckHs T X.N X.env.scope i hs ss = true → PSs (X.suite a ((a, oe) :: pn)) ss (tHd X.K i a c hs)
  | [], [], _ => PSs.imp pss_nil fun D σ H q => by
    obtain ⟨q0, F0, H0, F, ρ, k, sr, w, q⟩ := q
    exact q _ _ _ _ (Same.refl _) sr w
  | [], _ :: _, h => by cases h
  | _ :: _, [], h => by cases h
  | hi :: hs, st :: ss, h => by
    unfold ckHs at h
    obtain ⟨h1, h2⟩ := ba h
    refine PSs.imp (pss_cons (item_at (a := a) (pn := pn) g hc I hz hf hi st h1 hs) (hs_at g hc I hz hf hs ss h2)) fun D σ H q => ?_
    obtain ⟨q0, F0, H0, F, ρ, k, sr, w, q⟩ := q
    exact ⟨q0, F0, H0, F, ρ, k, sr, w, fun F1 ρ' σ' H' s1 e1 sr' w' => ⟨e1, F0, H0, F1, ρ', k, sr', w', fun ρ2 σ2 F2 H2 s2 => q ρ2 σ2 F2 H2 (s1.trans s2)⟩⟩
end
end DL
end
section
set_option maxRecDepth 100000
set_option maxHeartbeats 4000000
namespace DL
open PySem PySem.Spec PyProof.Rows L2
def keyP (v : Vec) : List Key := [.inl v.1, .inl v.2]
def pairV (v : Vec) : List V := [.int v.1, .int v.2]
theorem isKeys_zip {H : Hp} : ∀ {kvs : List (List Key × V)} {bs : List Addr} {ks : List Vec}, IsKeys H kvs bs → kvs.map (·.1) = ks.map keyP → ∃ L : List (Addr × Vec), L.map (·.1) = bs ∧ L.map (·.2) = ks ∧ ∀ q ∈ L, H q.1 = some (.tup (pairV q.2))
  | [], bs, ks, h, e => by
    cases h
    cases ks with
    | nil => exact ⟨[], rfl, rfl, fun q hq => (nomatch hq)⟩
    | cons k ks => cases e
  | kv :: kvs, bs, ks, h, e => by
    cases ks with
    | nil => cases e
    | cons k ks =>
      cases h with
      | cons h1 h2 =>
        rename_i b bs
        rw [List.map_cons, List.map_cons, List.cons.injEq] at e
        obtain ⟨L, e1, e2, e3⟩ := isKeys_zip h2 e.2
        refine ⟨(b, k) :: L, by rw [List.map_cons, e1], by rw [List.map_cons, e2], fun q hq => ?_⟩
        rcases List.mem_cons.mp hq with h | h
        · rw [h]
          rw [e.1] at h1
          exact h1
        · exact e3 q h
section
variable {X : Cx}
theorem call_sortedDT (hc : X.calm = true) : CallR X (.builtin "sorted") (fun xs H Q => ∃ (d : Addr) (kvs : List (List Key × V)) (ks : List Vec), xs = [V.ref d] ∧ Rd H d (.dT kvs) ∧ kvs.map (·.1) = ks.map keyP ∧ ks.length ≤ 2047 ∧ ks.Nodup ∧
    ∀ p (L : List (Addr × Vec)), H p = none → (∀ q ∈ L, H q.1 = some (.tup (pairV q.2))) → (L.map (·.2)).Perm ks → L.Pairwise (fun q r => SrtO.lexB r.2 q.2 = false) → Q (.ref p) (upd H p (.lst (L.map fun q => V.ref q.1)))) := by
  intro pins s σ H xs us Q I r h
  obtain ⟨d, kvs, kk, rfl, hd, hkk, few, nd, q⟩ := h
  obtain ⟨u, rfl, rx⟩ := r.one
  cases rx
  obtain ⟨z, hs, ks, pr, o, es, ep, ho, hx, hdt, he, hn⟩ := (show ObjOk X.prog X.w H s.heap d (.dT kvs) from hd.ok I.hok)
  have l1 : es.size = ks.length := size_of_entries he
  have l2 : kvs.length = ks.length := Paired.length pr
  have l3 : kvs.length = kk.length := by
    have := congrArg List.length hkk
    rw [List.length_map, List.length_map] at this
    exact this
  refine Calls.call_function_entry PyProof.Rows.kind_sorted PyProof.Rows.plain_sorted PyProof.Rows.entry_sorted (PyProof.Rows.args_sorted1 _) ?_
  unfold Builtin.«sorted»
  refine wpAny_bind (m := checkCount "sorted" 1 1 _) (wpAny_pure ?_)
  refine wpAny_bind (PySem.W.kdu_collect (A := X.A.in1) (kdl_raw hs hx hdt) (I.ok.hd hc) ho (by omega) fun h' tk acc' kp it => ?_)
  have ea : acc'.toList = ks.map fun x => Value.ref x.2.1 := by
    have hl : acc'.toList.length = ks.length := by rw [Array.length_toList, it.1]; exact l1
    apply List.ext_getElem?
    intro j
    rw [List.getElem?_map]
    cases hj : acc'.toList[j]? with
    | none =>
      have h1 := List.getElem?_eq_none_iff.mp hj
      rw [List.getElem?_eq_none (by omega)]
      all_goals rfl
    | some v =>
      obtain ⟨en, hen, hv⟩ := it.2 j v (by rw [← Array.getElem?_toList]; exact hj)
      have qe := entry_at he j
      rw [hen] at qe
      cases hb : ks[j]? with
      | none =>
        rw [hb] at qe
        exact nomatch (show some en = none from qe)
      | some b =>
        rw [hb] at qe
        have e2 : en = entryOfKey (tupleKind (mixKind X.prog X.w)) b := Option.some.inj qe
        rw [hv, e2]
        all_goals rfl
  obtain ⟨L, eL1, eL2, eL3⟩ := isKeys_zip (isKeys_of pr) hkk
  have I1 : Inv X pins σ H { s with heap := h', toks := tk } := I.kept kp
  have vs_ : acc'.toList = L.map fun q => Value.ref q.1 := by
    have e9 := congrArg (List.map Value.ref) eL1
    rw [List.map_map, List.map_map] at e9
    rw [ea]
    exact e9.symm
  have lenL : L.length = kk.length := by rw [← eL2, List.length_map]
  have szl : acc'.toList.length ≤ sizeLine := by rw [vs_, List.length_map, lenL, sizeLine_eq]; omega
  refine wpAny_bind (wpAny_newList ?_ szl)
  obtain ⟨vs, evs⟩ : ∃ vs, acc'.toList = vs := ⟨_, rfl⟩
  rw [evs] at vs_ szl ⊢
  obtain ⟨s1, es1⟩ : ∃ s1 : Shared, s1 = { s with heap := h', toks := tk } := ⟨_, rfl⟩
  rw [← es1] at I1 ⊢
  have k1 : ∀ b u, s.heap.get? b = some u → s1.heap.get? b = some u := by rw [es1]; exact kp
  have at_ : (s1.heap.push (seqObj "list" vs.toArray 0)).get? s1.heap.objs.size = some (seqObj "list" vs.toArray 0) := Heap.get?_push_size _ rfl
  have pr : ∀ q ∈ L, Srt.IsPair (s1.heap.push (seqObj "list" vs.toArray 0)) (.ref q.1) q.2.1 q.2.2 := fun q hq =>
    isPair_of (k := [q.2.1, q.2.2]) (isT_keep (I1.isT (k := [q.2.1, q.2.2]) (.inl (.inl (eL3 q hq)))) fun b u e => Heap.get?_push_of_some _ e) rfl
  obtain ⟨H1, eH⟩ : ∃ H1, s1.heap.push (seqObj "list" vs.toArray 0) = H1 := ⟨_, rfl⟩
  rw [eH] at at_ pr
  have prv : ∀ v ∈ vs, Srt.IsPair H1 v (pairAt H1 v).1 (pairAt H1 v).2 := fun v hv => by
    rw [vs_] at hv
    obtain ⟨q, hq, rfl⟩ := List.mem_map.mp hv
    rw [pairAt_eq (pr q hq)]
    exact pr q hq
  refine wpAny_bind (wpAny_holding ?_)
  show wpAny _ _ _ _ _ { s1 with heap := s1.heap.push (seqObj "list" vs.toArray 0) }
  rw [eH]
  refine wpAny_call_entry slot_list_sort ⟨_, at_, rfl⟩ entry_list_sort (SrtO.list_sort_ord (s := { s1 with heap := H1 }) (SrtO.swo_lex (pairAt H1)) at_ szl (fun h2 => SrtO.pairs_sortableO (by omega) prv fun o e c => ?_) fun out hs hb => ⟨_, rfl, ?_⟩) (args_list_sort _)
  · have e' : some o = some (seqObj "list" vs.toArray 0) := e.symm.trans at_
    cases e'
    exact absurd (Value.type.inj c) (by decide)
  · obtain ⟨c, hc'⟩ := sortedHeap_at (vs := vs) (out := out.toArray) at_
    have pmv : out.Perm (L.map fun q => Value.ref q.1) := by rw [← vs_]; exact hb.perm
    obtain ⟨L', e', sub⟩ : ∃ L' : List (Addr × Vec), out = L'.map (fun q => Value.ref q.1) ∧ ∀ q ∈ L', q ∈ L := by
      have go : ∀ vs : List Value, (∀ v ∈ vs, ∃ q ∈ L, v = Value.ref q.1) → ∃ L1 : List (Addr × Vec), vs = L1.map (fun q => Value.ref q.1) ∧ ∀ q ∈ L1, q ∈ L := by
        intro vs
        induction vs with
        | nil => exact fun _ => ⟨[], rfl, fun q hq => nomatch hq⟩
        | cons v vs ih =>
          intro h
          obtain ⟨q, hq, rfl⟩ := h v List.mem_cons_self
          obtain ⟨L1, rfl, h2⟩ := ih fun u hu => h u (List.mem_cons_of_mem _ hu)
          exact ⟨q :: L1, rfl, fun r hr => (List.mem_cons.mp hr).elim (fun e => by rw [e]; exact hq) (h2 r)⟩
      exact go out fun v hv => by
        obtain ⟨q, hq, e⟩ := List.mem_map.mp (pmv.mem_iff.mp hv)
        exact ⟨q, hq, e.symm⟩
    have one : ∀ q ∈ L, ∀ r ∈ L, q.1 = r.1 → q = r := fun q hq r hr e => by
      have a1 := eL3 q hq
      have a2 := eL3 r hr
      rw [e] at a1
      rw [a1] at a2
      unfold pairV at a2
      have e2 : q.2 = r.2 := by
        have e3 := Option.some.inj a2
        injection e3 with e3
        injection e3 with e3 e4
        injection e4 with e4
        injection e3 with e3
        injection e4 with e4
        exact Prod.ext e3 e4
      exact Prod.ext e e2
    have p1 : (L'.map fun q => Value.ref q.1).Perm (L.map fun q => Value.ref q.1) := by rw [← e']; exact pmv
    have nL : L.Nodup := nodup_of_map (f := fun q : Addr × Vec => q.2) (by rw [eL2]; exact nd)
    have nr : (L.map fun q => Value.ref q.1).Nodup := by
      refine List.pairwise_map.mpr (List.Pairwise.imp_of_mem (fun {q r} hq hr ne e => ?_) nL)
      exact ne (one q hq r hr (by injection e))
    have pL : L'.Perm L := by
      refine (List.perm_ext_iff_of_nodup (nodup_of_map (p1.nodup_iff.mpr nr)) nL).mpr fun q => ⟨sub q, fun hq => ?_⟩
      obtain ⟨r, hr, e⟩ := List.mem_map.mp (p1.mem_iff.mpr (List.mem_map.mpr ⟨q, hq, rfl⟩))
      rw [← one r (sub r hr) q hq (by injection e)]
      exact hr
    have fr : H s1.heap.objs.size = none := I1.hok.fresh (Nat.le_refl _)
    have kk3 : ∀ b u, s1.heap.get? b = some u → (sortedHeap H1 s1.heap.objs.size vs out.toArray).get? b = some u := fun b u e => by
      have lt := Heap.lt_size e
      rw [sortedHeap_old (Nat.ne_of_lt lt) (by rw [← eH, size_push']; exact Nat.lt_succ_of_lt lt), ← eH]
      exact Heap.get?_push_of_some _ e
    have lenL' : L'.length = kk.length := by rw [pL.length_eq, lenL]
    have len' : (L'.map fun q => V.ref q.1).length ≤ sizeLine := by rw [List.length_map, lenL', sizeLine_eq]; omega
    have rvl : Vals (L'.map fun q => V.ref q.1) out := by
      rw [e']
      have := vals_refs (L'.map (·.1))
      rw [List.map_map, List.map_map] at this
      exact this
    refine wpAny_pure ⟨_, rfl, ?_⟩
    refine ⟨.ref s1.heap.objs.size, upd H s1.heap.objs.size (.lst (L'.map fun q => V.ref q.1)), ?_, rfl, q _ L' fr (fun q hq => eL3 q (sub q hq)) (by rw [← eL2]; exact pL.map _) ?_⟩
    · exact I1.laid (t' := s1.toks) (o := .lst (L'.map fun q => V.ref q.1)) kk3 (Nat.le_refl _) ⟨len', out, c, rvl, hc'⟩
    · have hs : out.Pairwise (fun u v => SrtO.lexB (pairAt H1 v) (pairAt H1 u) = false) := hs
      rw [e'] at hs
      refine List.Pairwise.imp_of_mem (fun {q r} hq hr z => ?_) (List.pairwise_map.mp hs)
      rw [pairAt_eq (pr q (sub q hq)), pairAt_eq (pr r (sub r hr))] at z
      exact z
def tDV (jn jv : Nat) : TE := fun σ H Q => jv < σ.length ∧ ∃ (d : Addr) (kvs : List (List Key × V)) (ks : List Vec), σ[jn]? = some (some (.ref d)) ∧ H d = some (.dT kvs) ∧ kvs.map (·.1) = ks.map keyP ∧ ks.length ≤ 2047 ∧ ks.Nodup ∧
  ∀ (L : List Vec) (vs : List V) (H1 : Hp) (p : Addr), L.Perm ks → L.Pairwise (fun q r => SrtO.lexB r q = false) → Paired (fun k v => valV kvs (keyP k) = some v) L vs → Same H H1 → H1 p = none → Q (.ref p) (upd H1 p (.lst vs))
theorem valV_in {kvs : List (List Key × V)} {k : List Key} (h : k ∈ kvs.map (·.1)) : ∃ v, valV kvs k = some v := by
  have a : (kvs.any fun kv => decide (kv.1 = k)) = true := by
    obtain ⟨kv, h1, h2⟩ := List.mem_map.mp h
    exact List.any_eq_true.mpr ⟨kv, h1, decide_eq_true h2⟩
  rw [valV_any] at a
  exact Option.isSome_iff_exists.mp a
theorem vals_for {kvs : List (List Key × V)} : ∀ L : List Vec, (∀ k ∈ L, keyP k ∈ kvs.map (·.1)) → ∃ vs, Paired (fun k v => valV kvs (keyP k) = some v) L vs
  | [], _ => ⟨[], .nil⟩
  | k :: L, h => by
    obtain ⟨v, hv⟩ := valV_in (h k List.mem_cons_self)
    obtain ⟨vs, hvs⟩ := vals_for L fun j hj => h j (List.mem_cons_of_mem _ hj)
    exact ⟨v :: vs, .cons hv hvs⟩
theorem paired_at {α β : Type} {P : α → β → Prop} : ∀ {xs : List α} {ys : List β}, Paired P xs ys → ∀ (i : Nat) (x : α), xs[i]? = some x → ∃ y, ys[i]? = some y ∧ P x y
  | _, _, .nil, i, x, h => by simp at h
  | _, _, .cons h1 h2, 0, x, h => by
    simp at h
    subst h
    exact ⟨_, rfl, h1⟩
  | _, _, .cons h1 h2, i + 1, x, h => by
    obtain ⟨y, a, b⟩ := paired_at h2 i x (by simpa using h)
    exact ⟨y, by simpa using a, b⟩
theorem dv_ok {T : Tb} {G : Nat → DSp} {n : Nat} {cm : Bool} {W : WX} {jn jv : Nat} {own : List (Str × Nat)} {e : Expr} (g : GX T G n cm W X) (hc : X.calm = true) (h : ckDv X.N X.env.scope jn jv own e = true) : PE X e (tDV jn jv) := by
  unfold ckDv at h
  split at h
  · rename_i nm ap y bp sp c pc s sq nd_ dp cp asy scope pos
    obtain ⟨h, h9⟩ := ba h
    obtain ⟨h, h8⟩ := ba h
    obtain ⟨h, h7⟩ := ba h
    obtain ⟨h, h6⟩ := ba h
    obtain ⟨h, h5⟩ := ba h
    obtain ⟨h, h4⟩ := ba h
    obtain ⟨h, h3⟩ := ba h
    obtain ⟨h1, h2⟩ := ba h
    have ea := of_decide_eq_true h1
    subst ea
    obtain ⟨es, g1, g2⟩ := ckG_ok h2
    subst es
    obtain ⟨n1, n2, n3, n4⟩ := ckV_ok h3
    obtain ⟨a1, a2, a3, a4⟩ := ckV_ok h6
    obtain ⟨b1, b2, b3, b4⟩ := ckV_ok h7
    have jo : jn ∉ own.map (·.2) := by simpa using h8
    have vo : jv ∈ own.map (·.2) := by simpa using h9
    have ok := blkOk_by h4
    have pi := pi_list (tg := .Name c pc) (pe_callB (X := X) (pos := cp) (p := sq) (call_sortedDT hc) (Gl_of g1) (g.bo "sorted" (by decide)) PyProof.Rows.boot_sorted (pa_cons (pe_var (pos := dp) n1 n2 n3 n4) pa_nil))
    have hg := fun (s : Shared) (H : Hp) (C : Addr) (cl : List (Str × Addr)) (fp : List Addr) => pg_of (X := X.blk s H scope (compEnvC scope cl C X.env) fp) (sc := scope) blk_loc g.nd hc h5
    have he := fun (s : Shared) (H : Hp) (C : Addr) (cl : List (Str × Addr)) (fp : List Addr) => pe_dget (X := X.blk s H scope (compEnvC scope cl C X.env) fp) (pos := sp) (by have := (gx_blk (s := s) (H := H) (scope := scope) (C := C) (cl := cl) (fp := fp) g).hu; omega) (pe_var (X := X.blk s H scope (compEnvC scope cl C X.env) fp) (pos := ap) a1 a2 a3 a4) (pe_var (X := X.blk s H scope (compEnvC scope cl C X.env) fp) (pos := bp) b1 b2 b3 b4) (fun _ _ => rfl)
    refine PE.imp (pe_lc (pos := pos) hc g.nd pi ok hg (fun _ _ _ _ _ => pts_nil) he) fun σ H Q q => ?_
    obtain ⟨jl, d, kvs, ks, e1, e2, e3, e4, e5, q⟩ := q
    refine ⟨_, e1, ?_⟩
    refine ⟨d, kvs, ks, rfl, .inl e2, e3, e4, e5, fun p L hp hL pm pw => ?_⟩
    obtain ⟨H1, eH1⟩ : ∃ H1, H1 = upd H p (.lst (L.map fun q => V.ref q.1)) := ⟨_, rfl⟩
    have sm : Same H H1 := by rw [eH1]; exact same_upd hp
    have hpL : SqL X.K H1 p (L.map fun q => V.ref q.1) := .inl (.inl (by rw [eH1]; exact upd_same))
    rw [← eH1]
    refine ⟨p, rfl, ⟨_, hpL⟩, fun D hD => ?_⟩
    have mem : ∀ k ∈ L.map (·.2), keyP k ∈ kvs.map (·.1) := fun k hk => by
      rw [e3]
      exact List.mem_map.mpr ⟨k, pm.mem_iff.mp hk, rfl⟩
    obtain ⟨vs, hvs⟩ := vals_for (L.map (·.2)) mem
    have lvs : vs.length = L.length := by rw [← Paired.length hvs, List.length_map]
    have lL : L.length = ks.length := by rw [← pm.length_eq, List.length_map]
    have upD : ∀ o, Same H1 (upd H1 D o) := fun o => same_upd hD
    have updupd : ∀ o o', upd (upd H1 D o) D o' = upd H1 D o' := fun o o' => by
      funext b
      by_cases hb : b = D
      · subst hb; rw [upd_same, upd_same]
      · rw [upd_ne hb, upd_ne hb, upd_ne hb]
    refine ⟨fun i m Hc => m = L.length - i ∧ i ≤ L.length ∧ Hc = upd H1 D (.lst (vs.take i)), ⟨L.length, by simp, Nat.zero_le _, rfl⟩, ?_⟩
    rintro i m Hc ⟨rfl, hi, rfl⟩
    have hps : SqL X.K (upd H1 D (.lst (vs.take i))) p (L.map fun q => V.ref q.1) := SqL.mono (upD _) hpL
    by_cases hlt : i < L.length
    · refine .inr ⟨⟨_, _, hps, List.getElem?_eq_getElem (by simpa using hlt)⟩, fun H' => H' = upd H1 D (.lst (vs.take (i + 1))), fun H' e => ⟨L.length - (i + 1), by omega, rfl, by omega, e⟩, fun x H' y => ?_⟩
      obtain ⟨rfl, y⟩ := y
      have y := y _ hps
      rw [List.getElem?_map, List.getElem?_eq_getElem hlt] at y
      have ex : x = V.ref L[i].1 := (Option.some.inj y).symm
      subst ex
      refine ⟨by rw [wipe_set vo, wipe_wipe], ?_⟩
      simp only [tYes, if_true]
      have ej : ∀ x : Option V, ((wipe σ (own.map (·.2))).set jv x)[jn]? = σ[jn]? := fun x => by
        rw [List.getElem?_set_ne (fun z => jo (by rw [← z]; exact vo)), wipe_out jo]
      have vl : jv < (wipe σ (own.map (·.2))).length := by rw [wipe_length]; exact jl
      refine ⟨_, by rw [ej]; exact e1, _, by rw [List.getElem?_set_self vl], d, ?_⟩
      obtain ⟨v, hv1, hv2⟩ := paired_at hvs i L[i].2 (by rw [List.getElem?_map, List.getElem?_eq_getElem hlt]; rfl)
      refine ⟨v, rfl, ?_, vs.take i, upd_same, ?_, ?_⟩
      · have := DGet.t (H := upd H1 D (.lst (vs.take i))) (a := d) (b := L[i].1) (kvs := kvs) (k := keyP L[i].2) (upD _ _ _ (sm _ _ e2)) (upD _ _ _ (sm _ _ (hL L[i] (List.getElem_mem hlt))))
        rw [hv2] at this
        exact this
      · rw [List.length_take, sizeLine_eq]; omega
      · rw [updupd]
        congr 2
        rw [List.take_succ, hv1]
        rfl
    · have ei : i = L.length := by omega
      refine .inl ⟨⟨_, hps, by simp; omega⟩, ?_⟩
      rw [List.take_of_length_le (by omega)]
      exact q (L.map (·.2)) vs H1 D pm (List.pairwise_map.mpr pw) hvs sm hD
  · cases h
end
end DL
end
section
set_option maxRecDepth 100000
set_option maxHeartbeats 4000000
namespace DL
open PySem PySem.Spec PyProof.Rows L2
theorem keyP_inj {a b : Vec} (h : keyP a = keyP b) : a = b := by
  unfold keyP at h
  injection h with h1 h2
  injection h2 with h2
  exact Prod.ext (Sum.inl.inj h1) (Sum.inl.inj h2)
theorem keyP_dec (a b : Vec) : decide (keyP a = keyP b) = decide (a = b) := decide_eq_decide.mpr ⟨keyP_inj, fun h => by rw [h]⟩
def KA (K : PySem.W.Frag) (F : Hp) (acc : List (Vec × D)) (kvs : List (List Key × V)) : Prop := Paired (fun (a : Vec × D) (kv : List Key × V) => kv.1 = keyP a.1 ∧ Dq K F kv.2 a.2) acc kvs
theorem KA.mono {K : PySem.W.Frag} {F F' : Hp} (s : Same F F') : ∀ {acc : List (Vec × D)} {kvs : List (List Key × V)}, KA K F acc kvs → KA K F' acc kvs
  | _, _, .nil => .nil
  | _, _, .cons h t => .cons ⟨h.1, dp_mono s h.2⟩ (KA.mono s t)
theorem KA.any {K : PySem.W.Frag} {F : Hp} (k : Vec) : ∀ {acc : List (Vec × D)} {kvs : List (List Key × V)}, KA K F acc kvs → (kvs.any fun kv => decide (kv.1 = keyP k)) = (acc.any fun p => decide (p.1 = k))
  | _, _, .nil => rfl
  | _, _, .cons (a := a) (b := kv) h t => by
    rw [List.any_cons, List.any_cons, KA.any k t, h.1, keyP_dec]
theorem KA.repl {K : PySem.W.Frag} {F : Hp} {v : V} {d : D} (hv : Dq K F v d) (k : Vec) : ∀ {acc : List (Vec × D)} {kvs : List (List Key × V)}, KA K F acc kvs →
    KA K F (acc.map fun p => if p.1 = k then (p.1, d) else p) (kvs.map fun kv => if kv.1 = keyP k then (kv.1, v) else kv)
  | _, _, .nil => .nil
  | _, _, .cons (a := a) (b := kv) h t => by
    rw [List.map_cons, List.map_cons]
    refine .cons ?_ (KA.repl hv k t)
    by_cases q : a.1 = k
    · rw [if_pos q, if_pos (by rw [h.1, q])]
      exact ⟨h.1, hv⟩
    · rw [if_neg q, if_neg (fun z => q (keyP_inj (h.1.symm.trans z)))]
      exact h
theorem KA.snoc {K : PySem.W.Frag} {F : Hp} {v : V} {d : D} (hv : Dq K F v d) (k : Vec) : ∀ {acc : List (Vec × D)} {kvs : List (List Key × V)}, KA K F acc kvs → KA K F (acc ++ [(k, d)]) (kvs ++ [(keyP k, v)])
  | _, _, .nil => .cons ⟨rfl, hv⟩ .nil
  | _, _, .cons h t => .cons h (KA.snoc hv k t)
theorem KA.put {K : PySem.W.Frag} {F : Hp} {v : V} {d : D} {acc : List (Vec × D)} {kvs : List (List Key × V)} (h : KA K F acc kvs) (hv : Dq K F v d) (k : Vec) : KA K F (putA acc k d) (putK kvs (keyP k) v) := by
  unfold putA putK
  rw [h.any k]
  split
  · exact KA.repl hv k h
  · exact KA.snoc hv k h
theorem KA.keys {K : PySem.W.Frag} {F : Hp} : ∀ {acc : List (Vec × D)} {kvs : List (List Key × V)}, KA K F acc kvs → kvs.map (·.1) = (acc.map (·.1)).map keyP
  | _, _, .nil => rfl
  | _, _, .cons h t => by rw [List.map_cons, List.map_cons, List.map_cons, KA.keys t, h.1]
theorem KA.val {K : PySem.W.Frag} {F : Hp} (k : Vec) {v : V} : ∀ {acc : List (Vec × D)} {kvs : List (List Key × V)}, KA K F acc kvs → valV kvs (keyP k) = some v → ∃ d, valA acc k = some d ∧ Dq K F v d
  | _, _, .nil, h => by cases h
  | _, _, .cons (a := a) (b := kv) h t, e => by
    by_cases q : a.1 = k
    · rw [valV_pos (by rw [h.1, q])] at e
      cases e
      exact ⟨a.2, by simp [valA, List.find?_cons, q], h.2⟩
    · rw [valV_neg (fun z => q (keyP_inj (h.1.symm.trans z)))] at e
      obtain ⟨d, h1, h2⟩ := KA.val k t e
      exact ⟨d, by simpa [valA, List.find?_cons, q] using h1, h2⟩
theorem putA_keys (acc : List (Vec × D)) (k : Vec) (d : D) : (putA acc k d).map (·.1) = if k ∈ acc.map (·.1) then acc.map (·.1) else acc.map (·.1) ++ [k] := by
  unfold putA
  have e : (acc.any fun p => decide (p.1 = k)) = decide (k ∈ acc.map (·.1)) := by
    rw [Bool.eq_iff_iff, List.any_eq_true, decide_eq_true_eq, List.mem_map]
    exact ⟨fun ⟨p, h1, h2⟩ => ⟨p, h1, of_decide_eq_true h2⟩, fun ⟨p, h1, h2⟩ => ⟨p, h1, decide_eq_true h2⟩⟩
  rw [e]
  by_cases q : k ∈ acc.map (·.1)
  · rw [if_pos (decide_eq_true q), if_pos q, List.map_map]
    refine List.map_congr_left fun p _ => ?_
    show (if p.1 = k then (p.1, d) else p).1 = p.1
    split <;> rfl
  · rw [if_neg (by rw [decide_eq_false q]; decide), if_neg q, List.map_append]
    rfl
theorem putA_nodup {acc : List (Vec × D)} (h : (acc.map (·.1)).Nodup) (k : Vec) (d : D) : ((putA acc k d).map (·.1)).Nodup := by
  rw [putA_keys]
  split
  · exact h
  · rename_i q
    refine List.nodup_append.mpr ⟨h, by simp, fun a ha b hb => ?_⟩
    rw [List.mem_singleton.mp hb]
    exact fun z => q (by rw [← z]; exact ha)
theorem putA_len (acc : List (Vec × D)) (k : Vec) (d : D) : (putA acc k d).length ≤ acc.length + 1 := by
  have e := congrArg List.length (putA_keys acc k d)
  rw [List.length_map] at e
  rw [e]
  split
  · rw [List.length_map]; omega
  · rw [List.length_append, List.length_map]; simp
theorem SR.mutT {K : PySem.W.Frag} {F0 H0 F H : Hp} {ρ : En} {σ : L2.St} (x : SR K F0 H0 F ρ σ H) {a : Addr} {kvs kvs' : List (List Key × V)} (e : H a = some (.dT kvs)) (f : F a = none) (h0 : H0 a = none) : SR K F0 H0 F ρ σ (upd H a (.dT kvs')) := by
  have fu : Same F (upd H a (.dT kvs')) := fun c u q => by rw [upd_ne (ne_of_none q f)]; exact x.fh c u q
  refine ⟨fu, ⟨x.ent.f, fun c u q => ?_, x.ent.s⟩, x.len, x.val, fun j fs c q => ?_, x.sep⟩
  · rw [upd_ne (ne_of_none q h0)]; exact x.ent.h c u q
  · obtain ⟨a2, xs2, k1, k2, k3, k4, k5⟩ := x.own j fs c q
    refine ⟨a2, xs2, k1, ?_, k3, k4, k5⟩
    rw [upd_ne]
    · exact k2
    · intro z
      subst z
      rw [e] at k2
      cases k2
structure DI (K : PySem.W.Frag) (F0 H0 : Hp) (jn : Nat) (p : Addr) (F : Hp) (ρ : En) (σ : L2.St) (H : Hp) (acc : List (Vec × D)) : Prop where
  sr : SR K F0 H0 F ρ σ H
  at_ : σ[jn]? = some (some (.ref p))
  f : F p = none
  h0 : H0 p = none
  tb : ∃ kvs, H p = some (.dT kvs) ∧ KA K F acc kvs
  nd : (acc.map (·.1)).Nodup
  len : acc.length ≤ 2047
section
variable {K : PySem.W.Frag} {F0 H0 F H F' H' : Hp} {jn : Nat} {p : Addr} {ρ : En} {σ : L2.St} {acc : List (Vec × D)}
theorem DI.step (x : DI K F0 H0 jn p F ρ σ H acc) (s : Step F H F' H') (fh : Same F' H') : DI K F0 H0 jn p F' ρ σ H' acc := by
  obtain ⟨kvs, e, ka⟩ := x.tb
  exact ⟨x.sr.step s fh, x.at_, s.s p (ne_none_of e) x.f, x.h0, ⟨kvs, s.h _ _ e, ka.mono s.f⟩, x.nd, x.len⟩
theorem DI.setD (x : DI K F0 H0 jn p F ρ σ H acc) {v : V} {d : D} (h : Dq K F v d) {i : Nat} (ne : i ≠ jn) : DI K F0 H0 jn p F (ρ.set i (some (.d d))) (σ.set i (some v)) H acc :=
  ⟨x.sr.setD h i, by rw [List.getElem?_set_ne ne]; exact x.at_, x.f, x.h0, x.tb, x.nd, x.len⟩
end
theorem isD_inv {r : R} {k : D → Prop} (h : isD r k) : ∃ d, r = .d d ∧ k d := by
  unfold isD at h
  split at h
  · exact ⟨_, rfl, h⟩
  · exact h.elim
theorem isI_inv {r : R} {k : Int → Prop} (h : isI r k) : ∃ i, r = .d (.int i) ∧ k i := by
  unfold isI at h
  split at h
  · exact ⟨_, rfl, h⟩
  · exact h.elim
section
variable {X : Cx} {T : Tb} {G : Nat → DSp} {n : Nat} {cm : Bool} {W : WX}
theorem ckDa_inv {T : Tb} {N : List Str} {cm : Bool} {sc : Scope} {js : Nat} {es : E} {s1 : Stmt} (h : ckDa T N cm sc js es s1 = true) : ∃ b pb v p3, s1 = .Assign [.Name b pb] v p3 ∧ N[js]? = some b ∧ isLoc (sc.names.lookup b) = true ∧ plainX v = true ∧ ckE T N cm sc es v = true ∧ ∀ x y z w, v ≠ .ListComp x y z w := by
  unfold ckDa at h
  split at h
  · obtain ⟨ha, a5⟩ := ba h
    obtain ⟨ha, a4⟩ := ba ha
    obtain ⟨ha, a3⟩ := ba ha
    obtain ⟨a1, a2⟩ := ba ha
    exact ⟨_, _, _, _, rfl, of_decide_eq_true a1, a2, a3, a4, fun x y z w e => by subst e; cases a5⟩
  · cases h
theorem ckDc_inv {T : Tb} {N : List Str} {cm : Bool} {sc : Scope} {jn jp : Nat} {ex ey : E} {s2 : Stmt} (h : ckDc T N cm sc jn jp ex ey s2 = true) : ∃ c cp e1 e2 k tp sp d dp p4, s2 = .Assign [.Subscript (.Name c cp) (.Tuple [e1, e2] k tp) sp] (.Name d dp) p4 ∧
    ckV N sc jn c = true ∧ ckV N sc jp d = true ∧ plainX e1 = true ∧ plainX e2 = true ∧ ckE T N cm sc ex e1 = true ∧ ckE T N cm sc ey e2 = true := by
  unfold ckDc at h
  split at h
  · obtain ⟨hb, b6⟩ := ba h
    obtain ⟨hb, b5⟩ := ba hb
    obtain ⟨hb, b4⟩ := ba hb
    obtain ⟨hb, b3⟩ := ba hb
    obtain ⟨b1, b2⟩ := ba hb
    exact ⟨_, _, _, _, _, _, _, _, _, _, rfl, b1, b2, b3, b4, b5, b6⟩
  · cases h
theorem body_ok (g : GS T G n cm W X) {jn jp js : Nat} {es ex ey : E} {s1 s2 : Stmt} (h : ckDb T X.N cm X.env.scope jn jp js es ex ey s1 s2 = true) :
    PSs X [s1, s2] (fun D σ H => ∃ (F0 H0 F : Hp) (p : Addr) (ρ : En) (acc : List (Vec × DL.D)) (d : DL.D) (Ex : Nat → En → Prop) (k : En → List (Vec × DL.D) → Prop), DI X.K F0 H0 jn p F ρ σ H acc ∧ ρ[jp]? = some (some (.d d)) ∧ dBody G js es ex ey Ex ρ acc d k ∧
      (∀ c ρ' σ' F' H', Same F F' → SR X.K F0 H0 F' ρ' σ' H' → Ex c ρ' → W (clsV X.K T c) none σ' H') ∧ ∀ F' ρ' σ' H' acc', Same F F' → DI X.K F0 H0 jn p F' ρ' σ' H' acc' → k ρ' acc' → D.nx σ' H') := by
  unfold ckDb at h
  obtain ⟨h, n3⟩ := ba h
  obtain ⟨h, n2⟩ := ba h
  obtain ⟨h, n1⟩ := ba h
  obtain ⟨ha, hb⟩ := ba h
  have jsn : js ≠ jn := by simpa using n1
  have jsp : js ≠ jp := by simpa using n2
  obtain ⟨b, pb, v, p3, rfl, a1, a2, a3, a4, a5⟩ := ckDa_inv ha
  obtain ⟨c, cp, e1, e2, kk, tp, sp, dn, dp, p4, rfl, b1, b2, b3, b4, b5, b6⟩ := ckDc_inv hb
  obtain ⟨l1, l2⟩ := g.lc b a2
  obtain ⟨c1, c2, c3, c4⟩ := ckV_ok b1
  obtain ⟨d1, d2, d3, d4⟩ := ckV_ok b2
  have pa := ps_set (pos := p3) (pos' := pb) g.g.nd a1 l1 (sE es X W g.g _ a4).pe (noSwap a3 a5) l2
  have pk := pe_tup (pos := tp) (x1 := kk) (pa_cons (sE ex X W g.g _ b5).pe (pa_cons (sE ey X W g.g _ b6).pe pa_nil (starNo b4)) (starNo b3))
  have pb := ps_dput (pos := p4) (pos' := sp) (by have := g.g.hu; omega) (pe_var (pos := cp) c1 c2 c3 c4) pk (pe_var (pos := dp) d1 d2 d3 d4) rfl
  refine PSs.imp (pss_cons pa (pss_cons pb pss_nil)) fun D σ H q => ?_
  obtain ⟨F0, H0, F, p, ρ, acc, d, Ex, k, di, hd, w, ex', q⟩ := q
  have sx : ∀ {F1 : Hp} {ρ1 : En} {σ1 : L2.St} {H1 : Hp}, Same F F1 → SR X.K F0 H0 F1 ρ1 σ1 H1 → SX X.K T W F0 H0 F1 ρ1 σ1 H1 (fun c => Ex c ρ1) := fun s sr => ⟨sr, fun c F2 H2 z st f2 => ex' c _ _ F2 H2 (s.trans st.f) (sr.step st f2) z⟩
  unfold dBody at w
  refine (run1 (w := wE G es) (sx (Same.refl _) di.sr) w).mono fun v1 H1 ⟨F1, r, st1, f1, rv1, w1⟩ => ?_
  obtain ⟨x, rfl, w1⟩ := isD_inv w1
  have di1 := (di.step st1 f1).setD (show Dq X.K F1 v1 x from rv1) jsn
  obtain ⟨vd, ev, dv⟩ := di1.sr.val jp d (by rw [List.getElem?_set_ne jsp]; exact hd)
  refine ⟨vd, ev, _, di1.at_, ?_⟩
  refine (run1 (w := wE G ex) (sx st1.f di1.sr) w1).mono fun va H2 ⟨F2, ra, st2, f2, rva, w2⟩ => ?_
  obtain ⟨i, rfl, w2⟩ := isI_inv w2
  have di2 := di1.step st2 f2
  refine (run1 (w := wE G ey) (sx (st1.f.trans st2.f) di2.sr) w2).mono fun vb H3 ⟨F3, rb, st3, f3, rvb, w3⟩ => ?_
  obtain ⟨j, rfl, lw, w3⟩ := isI_inv w3
  have di3 := di2.step st3 f3
  have ea := rv_int rva
  have eb := rv_int rvb
  subst ea eb
  refine ⟨(show (2 : Nat) ≤ sizeLine by rw [sizeLine_eq]; omega), fun t ht => ?_⟩
  have st4 := Step.own (o := .tup [.int i, .int j]) di3.sr.fh ht
  have f4 := same_own (o := .tup [.int i, .int j]) di3.sr.fh ht
  have di4 := di3.step st4 f4
  obtain ⟨kvs, e4, ka⟩ := di4.tb
  have lk : kvs.length < sizeLine := by
    have := congrArg List.length ka.keys
    rw [List.length_map, List.length_map, List.length_map] at this
    rw [this, sizeLine_eq]
    omega
  refine ⟨p, _, rfl, DPut.t (k := keyP (i, j)) e4 upd_same lk, ?_⟩
  have dv4 : Dq X.K F3 vd d := dp_mono (st2.f.trans st3.f) dv
  refine q F3 _ _ _ _ ((st1.f.trans st2.f).trans st3.f) ⟨di4.sr.mutT e4 di4.f di4.h0, di4.at_, di4.f, di4.h0, ⟨_, upd_same, ka.put dv4 (i, j)⟩, putA_nodup di4.nd _ _, Nat.le_trans (putA_len _ _ _) (by omega)⟩ w3
theorem vals_of_KA {K : PySem.W.Frag} {F : Hp} {acc : List (Vec × DL.D)} {kvs : List (List Key × V)} (ka : KA K F acc kvs) : ∀ {L : List Vec} {vs : List V}, Paired (fun k v => valV kvs (keyP k) = some v) L vs → ∃ vals, Paired (fun k d => valA acc k = some d) L vals ∧ DqAll K F vs vals
  | _, _, .nil => ⟨[], .nil, .nil⟩
  | _, _, .cons h t => by
    obtain ⟨d, h1, h2⟩ := ka.val _ h
    obtain ⟨vals, h3, h4⟩ := vals_of_KA ka t
    exact ⟨d :: vals, .cons h1 h3, .cons h2 h4⟩
theorem ds_ok (g : GS T G n cm W X) {it : It} {jn jp js jv : Nat} {own : List (Str × Nat)} {es ex ey : E} {st : List Stmt} (h : ckDs T X.N cm X.env.scope it jn jp js jv own es ex ey st = true) : PSs X st (tS X.K T W (fun Z => wDs G it jn jp js jv es ex ey Z.ex Z.rt)) := by
  unfold ckDs at h
  split at h
  · obtain ⟨h, h7⟩ := ba h
    obtain ⟨h, h6⟩ := ba h
    obtain ⟨h, h5⟩ := ba h
    obtain ⟨h, h4⟩ := ba h
    obtain ⟨h, h3⟩ := ba h
    obtain ⟨hc, h2⟩ := ba h
    have hc := g.g.calm hc
    obtain ⟨l1, l2⟩ := g.lc _ h3
    obtain ⟨pi, nf⟩ := sI it X W g.g _ _ h5 hc
    have pn : (jp == jn) = false := by
      have := (ba h6).2
      simpa using this
    have jpn : jp ≠ jn := by simpa using pn
    refine PSs.imp (pss_cons (ps_set g.g.nd (of_decide_eq_true h2) l1 pe_dnewT rfl l2) (pss_cons (ps_for g.pa hc pi (pg_of g.lc g.g.nd hc h4) (body_ok g h6) nf) (pss_cons (ps_ret (dv_ok g.g hc h7)) pss_nil))) fun D σ H q => ?_
    obtain ⟨F0, H0, F, ρ, Z, sr, w, l⟩ := q
    obtain ⟨w1, w⟩ := w
    intro p hp
    have st0 := Step.own (o := .dT []) sr.fh hp
    have f0 := same_own (o := .dT []) sr.fh hp
    have sr1 := (sr.step st0 f0).setNone jn (some (.ref p))
    have di : DI X.K F0 H0 jn p F (ρ.set jn none) (σ.set jn (some (.ref p))) (upd H p (.dT [])) [] := ⟨sr1, by rw [List.getElem?_set_self (by rw [sr.len]; exact w1)], Same.free sr.fh hp, Same.free sr.ent.h hp, ⟨[], upd_same, .nil⟩, by simp, by simp⟩
    refine ⟨F0, H0, F, ρ.set jn none, _, _, ⟨sr1, fun c F2 H2 z s f => l.ex c _ _ F2 H2 s.f (sr1.step s f) z⟩, w, fun ds b J F1 H1 hl s1 f1 jq hz => ?_⟩
    obtain ⟨hb, hl⟩ := hl
    subst hb
    refine ⟨fun i m σ' H' => m = ds.length - i ∧ i ≤ ds.length ∧ ∃ F' ρ' acc, Same F1 F' ∧ DI X.K F0 H0 jn p F' ρ' σ' H' acc ∧ dLoop G jp js jv es ex ey Z.ex (fun acc => dFin Z.rt acc) (ds.drop i) ρ' acc, ⟨ds.length, by simp, Nat.zero_le _, F1, _, [], Same.refl _, di.step s1 f1, by simpa using hl⟩, ?_⟩
    rintro i m σ2 H2 ⟨rfl, hi2, F2, ρ2, acc, sf, di2, hw⟩
    have j2 := jq F2 H2 sf di2.sr.fh (fun z => nomatch z)
    by_cases hlt : i < ds.length
    · obtain ⟨d, hd⟩ : ∃ d, ds[i]? = some d := ⟨ds[i], List.getElem?_eq_getElem hlt⟩
      obtain ⟨go, yl⟩ := j2.1 i d hd
      have ed : ds.drop i = d :: ds.drop (i + 1) := by
        rw [List.drop_eq_getElem_cons hlt]
        rw [List.getElem?_eq_getElem hlt] at hd
        rw [Option.some.inj hd]
      rw [ed] at hw
      refine .inr ⟨go, fun σ' H' => ∃ F' ρ' acc, Same F1 F' ∧ DI X.K F0 H0 jn p F' ρ' σ' H' acc ∧ dLoop G jp js jv es ex ey Z.ex (fun acc => dFin Z.rt acc) (ds.drop (i + 1)) ρ' acc, fun σ' H' z => ⟨_, by omega, rfl, by omega, z⟩, fun x H3 y => ?_⟩
      obtain ⟨F3, s3, f3, hx⟩ := yl x H3 y
      have di3 := (di2.step s3 f3).setD hx jpn
      obtain ⟨wl, hw⟩ := hw
      refine ⟨F0, H0, F3, p, _, acc, d, _, _, di3, by rw [List.getElem?_set_self wl], hw, fun c ρ' σ' F' H' s r z => l.ex c ρ' σ' F' H' (((s1.f.trans sf).trans s3.f).trans s) r z, fun F' ρ' σ' H' acc' s dd z => ⟨F', ρ', acc', (sf.trans s3.f).trans s, dd, z⟩⟩
    · have e1 : i = ds.length := by omega
      subst e1
      rw [List.drop_length] at hw
      obtain ⟨jl2, hw⟩ := hw
      refine .inl ⟨j2.2, ?_⟩
      obtain ⟨kvs, e, ka⟩ := di2.tb
      refine ⟨by rw [di2.sr.len]; exact jl2, p, kvs, acc.map (·.1), di2.at_, e, ka.keys, by rw [List.length_map]; exact di2.len, di2.nd, fun L vs H1' p2 pm pw hvs sm hp2 => ?_⟩
      obtain ⟨vals, v1, v2⟩ := vals_of_KA ka hvs
      have st5 := same_step di2.sr.fh sm
      have st6 := Step.own (o := .lst vs) st5.2 hp2
      have f6 := same_own (o := .lst vs) st5.2 hp2
      exact l.rt (.l vals true) _ F2 _ (s1.f.trans sf) ((di2.sr.ent.trans st5.1).trans st6) f6 ⟨p2, vs, rfl, upd_same, v2, Same.free st5.2 hp2, fun _ => Same.free (di2.sr.ent.h.trans sm) hp2⟩ (hw L vals pm pw v1)
  · cases h
end
end DL
end
section
set_option maxRecDepth 100000
set_option maxHeartbeats 4000000
namespace DL
open PySem PySem.Spec PyProof.Rows L2
def hideA (F : Hp) (a : Addr) : Hp := fun b => if b = a then none else F b
theorem hideA_self {F : Hp} {a : Addr} : hideA F a a = none := if_pos rfl
theorem hideA_ne {F : Hp} {a b : Addr} (h : b ≠ a) : hideA F a b = F b := if_neg h
theorem hideA_same {F H : Hp} {a : Addr} (h : Same F H) : Same (hideA F a) H := fun b u e => by
  by_cases q : b = a
  · rw [q, hideA_self] at e; cases e
  · rw [hideA_ne q] at e; exact h b u e
theorem dq_ints_hide {K : PySem.W.Frag} {F : Hp} {a : Addr} {ys : List V} (ha : F a = some (.lst ys)) {v : V} {is : List Int} (h : Dq K F v (.tuple (is.map .int))) : Dq K (hideA F a) v (.tuple (is.map .int)) := by
  cases h with
  | tup h1 hn h3 =>
    rename_i t xs
    have hint : ∀ (is : List Int) (xs : List V), DqAll K F xs (is.map .int) → DqAll K (hideA F a) xs (is.map .int) := by
      intro is
      induction is with
      | nil => intro xs h; cases h; exact .nil
      | cons i is ih =>
        intro xs h
        cases h with
        | cons h1 h2 =>
          cases h1
          exact .cons (.int i) (ih _ h2)
    have seq : SqT K (hideA F a) t xs := by
      rcases h1 with h1 | h1
      · refine .inl ?_
        have ne : t ≠ a := fun z => by
          subst z
          rcases h1 with h1 | ⟨o, h1⟩ <;> rw [ha] at h1 <;> cases h1
        rcases h1 with h1 | ⟨o, h1⟩
        · exact .inl (by rw [hideA_ne ne]; exact h1)
        · exact .inr ⟨o, by rw [hideA_ne ne]; exact h1⟩
      · exact .inr h1
    refine .tup seq (fun z => ?_) (hint _ _ h3)
    obtain ⟨o, q, d⟩ := hn z
    refine ⟨o, ?_, d⟩
    rcases q with ⟨u, q⟩ | q
    · have ne : t ≠ a := fun z => by
        subst z
        rw [ha] at q
        cases q
      exact .inl ⟨u, by rw [hideA_ne ne]; exact q⟩
    · exact .inr q
section
variable {X : Cx} {T : Tb} {G : Nat → DSp} {n : Nat} {cm : Bool} {W : WX}
theorem lend_step {F2 H F' H' : Hp} {a : Addr} {xs : List V} (hF : F2 a = none) (s : Step (upd F2 a (.lst xs)) H F' H') : Step F2 H (hideA F' a) H' := by
  refine ⟨fun b u e => ?_, s.h, fun b h1 h2 => ?_⟩
  · have ne : b ≠ a := fun z => by rw [z, hF] at e; cases e
    rw [hideA_ne ne]
    exact s.f b u (by rw [upd_ne ne]; exact e)
  · by_cases ne : b = a
    · rw [ne]; exact hideA_self
    · rw [hideA_ne ne]
      exact s.s b h1 (by rw [upd_ne ne]; exact h2)
theorem al_call (g : GS T G n cm W X) {j f : Nat} {e : E} {p : Expr} {y z : Str} {yp zp pos : Pos} (hc : cm = true) (hf : T.fns.contains f = true) (hz : ckG X.env.scope (T.fn f) z = true) (hy : ckV X.N X.env.scope j y = true) (he : ckE T X.N cm X.env.scope e p = true) (hp : plainX p = true) :
    PE X (.Call (.Name z zp) [p, .Name y yp] [] pos) (fun σ H Q => ∃ (F0 H0 F : Hp) (ρ : En) (Ex : Nat → En → Prop) (nx : En → Prop), SR X.K F0 H0 F ρ σ H ∧ wAL G j f e Ex nx ρ ∧ (∀ c F' H', Ex c ρ → Same F F' → SR X.K F0 H0 F' ρ σ H' → W (clsV X.K T c) none σ H') ∧
      ∀ (ds : List DL.D) (b : Bool) (a : Addr) (is : List Int) (v : V) (F' H' : Hp), ρ[j]? = some (some (R.l ds b)) → σ[j]? = some (some (.ref a)) → Same F F' → SR X.K F0 H0 F' ρ σ H' → Dq X.K F' v (.tuple (is.map .int)) → ds.length < sizeLine → nx (ρ.set j (some (.l (ds ++ [.tuple (is.map .int)]) true))) → Q v H') := by
  obtain ⟨e1, g1, g2⟩ := ckG_ok hz
  subst e1
  obtain ⟨k, a, fd, pp, hk, hF, hm, hkp, hb⟩ := (g.g.fns f (by simpa using hf)).ex
  obtain ⟨n1, n2, n3, n4⟩ := ckV_ok hy
  refine PE.imp (pe_callS (E := WE W) hF ((g.g.room hc).mono hk) (Gl_of g1) hm hkp hb (fun σ => passAt g.g.tk σ) (pa_cons (sE e X W g.g _ he).pe (pa_cons (pe_var n1 n2 n3 n4) pa_nil) (starNo hp)) g2 (starNo hp) rfl) fun σ H Q q => ?_
  obtain ⟨F0, H0, F, ρ, Ex, nx, sr, ⟨ds, b, e2, w⟩, ex, q⟩ := q
  obtain ⟨a0, xs0, o1, o2, o3, o4, o5⟩ := sr.own j ds b e2
  refine (run1 (w := wE G e) (⟨sr, fun c F2 H2 h s f => ex c F2 H2 h s.f (sr.step s f)⟩ : SX X.K T W F0 H0 F ρ σ H (fun c => Ex c ρ)) w).mono fun x H1 ⟨F1, r, s1, f1, v1, k1⟩ => ?_
  obtain ⟨F2, xd, a1, a2, a3, a4, k2, k3⟩ := frzP_ok v1 f1 k1
  have s2 := step_frz s1 a1 a4
  have sr2 := sr.step s2 a2
  obtain ⟨a', xs, p1, p2, p3, p4, p5⟩ := sr2.own j ds b e2
  rw [o1] at p1
  cases p1
  refine ⟨_, o1, ?_⟩
  have fl : Same (upd F2 a0 (.lst xs)) H1 := upd_le a2 p2
  have sl : Same F2 (upd F2 a0 (.lst xs)) := same_upd p4
  refine ⟨upd F2 a0 (.lst xs), [xd, .list ds], _, _, fl, .cons (dp_mono sl a3) (.cons (.lst (.inl upd_same) (dpa_mono sl p3)) .nil), k3, fun r v F' H' hp s3 f3 v3 => ?_, fun c F' H' hp s3 f3 => ?_⟩
  · obtain ⟨is, rfl, hn⟩ := hp
    have st := lend_step p4 s3
    have fs := hideA_same (a := a0) f3
    exact q ds b a0 is v _ H' e2 o1 (s2.f.trans st.f) (sr2.step st fs) (dq_ints_hide (s3.f _ _ upd_same) v3) k2 hn
  · have st := lend_step p4 s3
    have fs := hideA_same (a := a0) f3
    exact ex c _ H' hp (s2.f.trans st.f) (sr2.step st fs)
end
end DL
end
section
set_option maxRecDepth 100000
set_option maxHeartbeats 4000000
namespace DL
open PySem PySem.Spec PyProof.Rows L2 RZ RT
section
variable {X : Cx} {K : PySem.W.Frag} {T : Tb} {G : Nat → DSp} {W : WX} {F0 H0 F H F' H' B : Hp} {ρ ρ' : En} {σ σ' : L2.St} {Z : DE} {D : Ends} {n : Nat} {cm : Bool}
theorem PG.or {e : Expr} {t1 t2 : TG} (h1 : PG X e t1) (h2 : PG X e t2) : PG X e (fun v σ H Q => t1 v σ H Q ∨ t2 v σ H Q) :=
  ⟨fun pins s σ H v u Q I r h => h.elim (h1.run pins s σ H v u Q I r) (h2.run pins s σ H v u Q I r)⟩
theorem setAll_len : ∀ {is : List Nat} {ds : List DL.D} {ρ ρ' : En}, setAll ρ is ds = some ρ' → is.length = ds.length := by
  intro is
  induction is with
  | nil => intro ds ρ ρ' e; cases ds with
    | nil => rfl
    | cons _ _ => cases e
  | cons i is ih => intro ds ρ ρ' e; cases ds with
    | nil => cases e
    | cons d ds => rw [List.length_cons, List.length_cons, ih (ds := ds) e]
theorem swap2 {x y : Str} {px py pt pt2 : Pos} {kt k2 : Nat} {p q : Expr} {env : Env} (hk : env.scope.kind = .function) (hx : env.scope.names.lookup x = some .local) (hy : env.scope.names.lookup y = some .local) (hn : x ≠ y) (hl : (py.line == px.line) = true)
    (h1 : [p, q].all (foldedForSure 8) = false) (h2 : [p, q].all (constantsAlone 8) = false) (h3 : plainX p = true) (h4 : plainX q = true) :
    swappedStores [.Tuple [.Name x px, .Name y py] kt pt] (.Tuple [p, q] k2 pt2) env = pure (some [x, y]) := by
  have hb : env.blockKind = .function := by unfold Env.blockKind; rw [hk]; rfl
  have kx : env.kindOf x = some .local := hx
  have ky : env.kindOf y = some .local := hy
  have hs : ([p, q].any fun | .Starred .. => true | _ => false) = false := by
    have a : ∀ e, plainX e = true → (match e with | .Starred .. => true | _ => false) = false := fun e h => by
      cases e <;> first | rfl | (unfold plainX at h; cases h)
    rw [List.any_cons, List.any_cons, List.any_nil, a p h3, a q h4] <;> rfl
  have hd : ([x, y] : List Str).eraseDups.length = 2 := by
    have : ([x, y] : List Str).eraseDups = [x, y] := by
      rw [List.eraseDups_cons]
      have : (([y] : List Str).filter fun b => !b == x) = [y] := by
        rw [List.filter_cons, if_pos] <;> simp
        exact fun z => hn z.symm
      rw [this, List.eraseDups_cons]
      simp
    rw [this] <;> rfl
  unfold swappedStores
  simp only []
  rw [if_neg (show ¬ _ from fun z => by rw [hb] at z; simp at z)]
  refine Eq.trans (if_neg (fun z => absurd (hs.symm.trans z) (by decide))) ?_
  have e0 : (([Expr.Name x px, Expr.Name y py].head?.map (·.pos.line)).getD 0) = px.line := rfl
  rw [e0]
  simp only [List.filterMap_cons, kx, ky, hl, beq_self_eq_true, Bool.and_self, if_true, List.filterMap_nil]
  rw [if_neg (show ¬ _ from fun z => by rw [hd] at z; simp at z)]
  rw [if_neg (by rw [h1]; decide), if_neg (by rw [h2]; decide)]
theorem ckM_ok {N : List Str} {sc : Scope} {j : Nat} {m : Str} {o : Expr} (h : ckMeth T N sc j m o = true) : ∃ y yp apos, o = .Attribute (.Name y yp) m apos ∧ ckV N sc j y = true := by
  unfold ckMeth at h
  split at h
  · obtain ⟨h1, h2⟩ := ba h
    have e := of_decide_eq_true h1
    subst e
    exact ⟨_, _, _, rfl, h2⟩
  · cases h
theorem pe_meth1 {y m : Str} {yp apos cpos : Pos} {p : Expr} {j : Nat} {id : String} {r : V → List V → Hp → VK → Prop} {te : TE} (hv : ckV X.N X.env.scope j y = true) (slot : Slot "list" m id) (hty : typeOf (.builtin id) = pure (.type "method_descriptor")) (hm : MtR X id r) (hp : PE X p te) (pl : plainX p = true)
    (hline : (apos.endLine == cpos.line) = true) : PE X (.Call (.Attribute (.Name y yp) m apos) [p] [] cpos) (tBM X.K "list" r (tVar j) (tCons te tNil)) := by
  obtain ⟨h1, h2, h3, h4⟩ := ckV_ok hv
  refine pe_bm PySem.F.plainAttrs_list slot hty hm (pe_var h1 h2 h3 h4) (pa_cons hp pa_nil (starNo pl)) rfl ?_ hline (starNo pl) rfl
  rw [starNo pl] <;> rfl
theorem pe_meth0' {y m : Str} {yp apos cpos : Pos} {j : Nat} {id : String} {r : V → List V → Hp → VK → Prop} (hv : ckV X.N X.env.scope j y = true) (slot : Slot "list" m id) (hty : typeOf (.builtin id) = pure (.type "method_descriptor")) (hm : MtR X id r)
    (hline : (apos.endLine == cpos.line) = true) : PE X (.Call (.Attribute (.Name y yp) m apos) [] [] cpos) (tBM0 X.K "list" r (tVar j)) := by
  obtain ⟨h1, h2, h3, h4⟩ := ckV_ok hv
  exact pe_bm0 PySem.F.plainAttrs_list slot hty hm (pe_var h1 h2 h3 h4) rfl hline
end
theorem allNames {N : List Str} {sc : Scope} {ok : List Nat} : ∀ {is : List Nat} {es : List Expr}, es.length = is.length → ((es.zip is).all fun p => match p.1 with
      | .Name x _ => ckN N p.2 x && isLoc (sc.names.lookup x) && ok.contains p.2
      | _ => false) = true → es.all (fun e => match e with | .Name _ _ => true | _ => false) = true
  | [], [], _, _ => rfl
  | [], _ :: _, h, _ => by simp at h
  | _ :: _, [], h, _ => by simp at h
  | i :: is, e1 :: es, c1, c2 => by
    rw [List.zip_cons_cons, List.all_cons] at c2
    obtain ⟨d1, d2⟩ := ba c2
    rw [List.all_cons, allNames (is := is) (es := es) (by simpa using c1) d2]
    cases e1 <;> first | rfl | cases d1
theorem gs_tr {T : Tb} {G : Nat → DSp} {n : Nat} {cm : Bool} {W W' : WX} {X : Cx} {pn : List (Addr × Obj)} {xe : Value → Shared → Prop} (g : GS T G n cm W X) (tk' : Takes (X.tr pn xe) W') (pa' : PassesOwn (model X.prog X.w) X.A X.env xe) : GS T G n cm W' (X.tr pn xe) where
  g := ⟨g.g.room, g.g.calm, g.g.hu, fun f hf => FnT.mk (g.g.fns f hf).ex, g.g.gl, g.g.bi, g.g.bo, tk', g.g.nd⟩
  pa := pa'
  lc := g.lc
  st := g.st
  fr := g.fr
  kd := g.kd
  xc := fun c hc => let z := g.xc c hc; ⟨z.at_, z.exc, z.keep, z.sub, z.typ⟩
  xm := g.xm
  xi := g.xi
theorem gs_suite {T : Tb} {G : Nat → DSp} {n : Nat} {cm : Bool} {W : WX} {X : Cx} {a : Addr} {pn : List (Addr × Obj)} (g : GS T G n cm W X) : GS T G n false W0 (X.suite a pn) where
  g := ⟨(fun z => nomatch z), (fun z => nomatch z), g.g.hu, fun f hf => FnT.mk (g.g.fns f hf).ex, g.g.gl, g.g.bi, g.g.bo, takes0, g.g.nd⟩
  pa := PassesOwn.never
  lc := g.lc
  st := g.st
  fr := g.fr
  kd := g.kd
  xc := fun c hc => let z := g.xc c hc; ⟨z.at_, z.exc, z.keep, z.sub, z.typ⟩
  xm := g.xm
  xi := g.xi
mutual
theorem sS {T : Tb} {G : Nat → DSp} {n : Nat} : ∀ (s : S) (cm : Bool) (X : Cx) (W : WX) (g : GS T G n cm W X) (st : Stmt), ckS T X.N cm X.env.scope s st = true → PS X st (tS X.K T W (wS G s))
  | .set i e, cm, X, W, g, st, h => by
    unfold ckS at h
    split at h
    · rename_i y py v pos
      obtain ⟨h, h3⟩ := ba h
      obtain ⟨h, h2⟩ := ba h
      obtain ⟨h0, h1⟩ := ba h
      have h0 : X.N[i]? = some y := of_decide_eq_true h0
      have im : ∀ D σ H, tS X.K T W (wS G (.set i e)) D σ H → tAsg (tE X.K T W (wE G e)) (gName i) D σ H := fun D σ H q => by
        obtain ⟨F0, H0, F, ρ, Z, sr, w, l⟩ := q
        unfold wS at w
        refine (runS (w := wE G e) sr l w).mono fun x H1 ⟨F1, r, s1, f1, v1, sr1, l1, k1⟩ => ?_
        obtain ⟨ρ', sr2, k2⟩ := sr1.setR (B := H) sr.ent.h (own_nn sr) v1 i k1
        exact l1.nx _ _ _ _ (Same.refl _) sr2 k2
      cases v with
      | ListComp e1 gs scope lp =>
        have h3 : (match X.env.scope.names.lookup y with
          | some .local => (py.line == lp.line) && !(scope.names.any fun (n, k) => n == y && (k == .local || k == .cell))
          | some .cell => true
          | _ => false) = true := h3
        cases hk : X.env.scope.names.lookup y with
        | none => rw [hk] at h3; cases h3
        | some kd =>
          rw [hk] at h3
          cases kd with
          | «local» =>
            obtain ⟨hl, ha⟩ := ba h3
            have ha : (scope.names.any fun (n, k) => n == y && (k == .local || k == .cell)) = false := by simpa using ha
            cases e with
            | lc elt tg it cond own =>
              cases gs with
              | nil => unfold ckE at h2; exact absurd h2 Bool.false_ne_true
              | cons g0 gs =>
                obtain ⟨t, i2, ifs, asy⟩ := g0
                cases gs with
                | cons _ _ =>
                  unfold ckE at h2
                  split at h2
                  · rename_i heq
                    cases heq
                  · cases h2
                | nil =>
                  by_cases ha0 : asy = 0
                  case neg =>
                    unfold ckE at h2
                    split at h2
                    · rename_i heq
                      cases heq
                      exact absurd rfl ha0
                    · cases h2
                  case pos =>
                    subst ha0
                    unfold ckE at h2
                    have h2 : (cm && ckIt T X.N cm X.env.scope it t i2 && blkC X.N X.env.scope scope own && ckT X.N scope (own.map (·.2)) tg t && ckE T X.N cm (relS scope X.env.scope) elt e1 && ckCond T X.N cm (relS scope X.env.scope) cond ifs) = true := h2
                    obtain ⟨h2, h6⟩ := ba h2
                    obtain ⟨h2, h5⟩ := ba h2
                    obtain ⟨h2, h4⟩ := ba h2
                    obtain ⟨h2, h3'⟩ := ba h2
                    obtain ⟨hc, h2⟩ := ba h2
                    have ok := blkOk_by h3'
                    obtain ⟨pi, nf⟩ := sI it X W g.g t i2 h2 (g.g.calm hc)
                    have hg := fun (s : Shared) (H : Hp) (C : Addr) (cl : List (Str × Addr)) (fp : List Addr) => pg_of (X := X.blk s H scope (compEnvC scope cl C X.env) fp) (sc := scope) blk_loc g.g.nd (g.g.calm hc) h4
                    have ht := fun (s : Shared) (H : Hp) (C : Addr) (cl : List (Str × Addr)) (fp : List Addr) => sCond cond (X.blk s H scope (compEnvC scope cl C X.env) fp) (gx_blk g.g) ifs h6
                    have he := fun (s : Shared) (H : Hp) (C : Addr) (cl : List (Str × Addr)) (fp : List Addr) => (sE elt (X.blk s H scope (compEnvC scope cl C X.env) fp) W0 (gx_blk g.g) e1 h5).pe
                    exact PS.imp (ps_setLc (g.g.calm hc) g.g.nd h0 hk (sw_true g.kd hk hl ha) pi ok hg ht he nf) fun D σ H q => sLc (Q := fun x H1 => gName i x σ H1 D.nx) g.g (g.g.calm hc) pi ok hg ht he nf (ckT_own h4) (pos := lp) (im D σ H q)
            | _ => unfold ckE at h2; exact absurd h2 Bool.false_ne_true
          | cell => exact PS.imp (ps_set g.g.nd h0 (.inr hk) (sE e X W g.g _ h2).pe (noSwapCell hk) (g.lc y (by rw [hk]; rfl)).2) im
          | _ => cases h3
      | _ =>
        obtain ⟨l1, l2⟩ := g.lc y h3
        exact PS.imp (ps_set g.g.nd h0 l1 (sE e X W g.g _ h2).pe (noSwap h1 fun a b c d z => by cases z) l2) im
    · cases h
  | .tup is e, cm, X, W, g, st, h => by
    unfold ckS at h
    split at h
    · rename_i es k tp v pos
      obtain ⟨h, h4⟩ := ba h
      obtain ⟨h, h3⟩ := ba h
      obtain ⟨h, h2⟩ := ba h
      obtain ⟨hc, h1⟩ := ba h
      have hc := g.g.calm hc
      have h3' := h3
      unfold ckT at h3'
      obtain ⟨c1, c2⟩ := ba h3'
      have c1 : es.length = is.length := of_decide_eq_true c1
      obtain ⟨p1, p2, p3⟩ := pgs_of g.lc g.g.nd c1 c2
      have hw : swappedStores [.Tuple es k tp] v X.env = pure none := by
        rcases Bool.or_eq_true_iff.mp h2 with z | z
        · exact noStores (by simpa using z)
        · exact noStoresC z (allNames c1 c2)
      refine PS.imp (ps_asg (sE e X W g.g _ h4).pe (PG.or (pg_tup hc p1 p2 p3) (pg_lst hc p1 p2 p3)) noSwapT hw rfl) fun D σ H q => ?_
      obtain ⟨F0, H0, F, ρ, Z, sr, w, l⟩ := q
      unfold wS at w
      refine (runS (w := wE G e) sr l w).mono fun x H1 ⟨F1, r, s1, f1, v1, sr1, l1, k1⟩ => ?_
      unfold stU at k1
      split at k1
      · rename_i ds e1
        obtain ⟨a, xs, e2, q1, q2⟩ := rv_tup v1 e1
        subst e2
        split at k1
        · rename_i ρ' e3
          refine .inl ⟨a, xs, rfl, SqT.mono f1 q1, by rw [dpa_len q2, setAll_len e3], gT_all sr1 q2 e3 sr1 fun σ' s' _ => l1.nx _ _ _ _ (Same.refl _) s' k1⟩
        · exact k1.elim
      · rename_i ds e1
        obtain ⟨a, xs, e2, q1, q2⟩ := rv_list f1 v1 e1
        subst e2
        split at k1
        · rename_i ρ' e3
          refine .inr ⟨a, xs, rfl, .inl q1, by rw [dpa_len q2, setAll_len e3], gT_all sr1 q2 e3 sr1 fun σ' s' _ => l1.nx _ _ _ _ (Same.refl _) s' k1⟩
        · exact k1.elim
      · exact k1.elim
    · cases h
  | .par2 i j a b, cm, X, W, g, st, h => by
    unfold ckS at h
    split at h
    · rename_i x px y py kt pt p q k2 pt2 pos
      obtain ⟨h, c13⟩ := ba h
      obtain ⟨h, c12⟩ := ba h
      obtain ⟨h, c11⟩ := ba h
      obtain ⟨h, c10⟩ := ba h
      obtain ⟨h, c9⟩ := ba h
      obtain ⟨h, c8⟩ := ba h
      obtain ⟨h, c7⟩ := ba h
      obtain ⟨h, c6⟩ := ba h
      obtain ⟨h, c5⟩ := ba h
      obtain ⟨h, c4⟩ := ba h
      obtain ⟨h, c3⟩ := ba h
      obtain ⟨h, c2⟩ := ba h
      obtain ⟨hc, c1⟩ := ba h
      have hij : i ≠ j := by simpa using c3
      have hx : X.env.scope.names.lookup x = some .local := by simpa using c4
      have hy : X.env.scope.names.lookup y = some .local := by simpa using c5
      have hxy : x ≠ y := by simpa using c6
      refine PS.imp (ps_par (g.g.calm hc) g.g.nd (of_decide_eq_true c1) (of_decide_eq_true c2) hij hx hy (pa_cons (sE a X W g.g _ c12).pe (pa_cons (sE b X W g.g _ c13).pe pa_nil (starNo c11)) (starNo c10))
        (swap2 g.kd hx hy hxy c7 (Bool.not_eq_true' _ ▸ c8) (Bool.not_eq_true' _ ▸ c9) c10 c11) noSwapT) fun D σ H q => ?_
      obtain ⟨F0, H0, F, ρ, Z, sr, w, l⟩ := q
      unfold wS at w
      refine (runS (w := wE G a) sr l w).mono fun u H1 ⟨F1, r, s1, f1, v1, sr1, l1, k1⟩ => ?_
      refine (runS (w := wE G b) sr1 l1 k1).mono fun v H2 ⟨F2, s, s2, f2, v2, sr2, l2, k2⟩ => ?_
      refine ⟨u, v, rfl, ?_⟩
      have k3 : wArgs [r, s] (fun ds => ∃ x y, ds = [x, y] ∧ Z.nx ((ρ.set i (some (.d x))).set j (some (.d y)))) := by
        show frzP r fun x => frzP s fun y => _
        unfold frzP at k2 ⊢
        cases e1 : frz r with
        | none => rw [e1] at k2; exact k2.elim
        | some x =>
          rw [e1] at k2
          cases e2 : frz s with
          | none => rw [e2] at k2; exact k2.elim
          | some y =>
            rw [e2] at k2
            exact ⟨x, y, rfl, k2⟩
      have rvs : RVs X.K H F2 H2 [r, s] [u, v] := ⟨u, [v], rfl, v1.step s2, v, [], rfl, v2.base s1.h, rfl⟩
      obtain ⟨F3, ds, a1, a2, a3, a4, x, y, e3, k4⟩ := args_at rvs (Same.refl _) f2 k3
      subst e3
      cases a3 with
      | cons d1 a3 =>
        cases a3 with
        | cons d2 a3 =>
          have st := step_frz (s1.trans s2) a1 a4
          have sr3 := sr.step st a2
          exact l2.nx _ _ _ _ a1 ((sr3.setD d1 i).setD d2 j) k4
    · cases h
  | .app j e, cm, X, W, g, st, h => by
    unfold ckS at h
    split at h
    · rename_i o p cp pos
      obtain ⟨h, c5⟩ := ba h
      obtain ⟨h, c4⟩ := ba h
      obtain ⟨h, c3⟩ := ba h
      obtain ⟨hc, c2⟩ := ba h
      obtain ⟨y, yp, apos, e1, hv⟩ := ckM_ok c2
      subst e1
      refine PS.imp (ps_expr (pe_meth1 hv PySem.F.slot_list_append PySem.F.type_list_append mt_append (sE e X W g.g _ c5).pe c4 c3)) fun D σ H q => ?_
      obtain ⟨F0, H0, F, ρ, Z, sr, w, l⟩ := q
      unfold wS at w
      obtain ⟨ds, b, e1, w⟩ := ownAt_inv w
      obtain ⟨a0, xs0, g1, g2, g3, g4, g5⟩ := sr.own j ds b e1
      refine ⟨_, g1, .inl ⟨rfl, xs0, .inl (.inl g2)⟩, ?_⟩
      refine (runS (w := wE G e) sr l w).mono fun x H1 ⟨F1, r, s1, f1, v1, sr1, l1, k1⟩ => ?_
      obtain ⟨F2, xd, a1, a2, a3, a4, k2, k3⟩ := frzP_ok v1 f1 k1
      have sr2 := sr.step (step_frz s1 a1 a4) a2
      obtain ⟨a', xs, p1, p2, p3, p4, p5⟩ := sr2.own j ds b e1
      rw [g1] at p1
      cases p1
      refine ⟨a0, xs, x, rfl, rfl, p2, by rw [dpa_len p3]; exact k2, ?_⟩
      exact l1.nx _ _ _ _ a1 (sr2.put e1 g1 (dpa_app p3 (.cons a3 .nil))) k3
    · cases h
  | .appL j f e, cm, X, W, g, st, h => by
    unfold ckS at h
    split at h
    · obtain ⟨h, c8⟩ := ba h
      obtain ⟨h, c7⟩ := ba h
      obtain ⟨h, c6⟩ := ba h
      obtain ⟨h, c5⟩ := ba h
      obtain ⟨h, c4⟩ := ba h
      obtain ⟨h, c3⟩ := ba h
      obtain ⟨hc, c2⟩ := ba h
      obtain ⟨y, yp, apos, e1, hv⟩ := ckM_ok c2
      subst e1
      refine PS.imp (ps_expr (pe_meth1 hv PySem.F.slot_list_append PySem.F.type_list_append mt_append (al_call g hc c4 c5 c6 c7 c8) rfl c3)) fun D σ H q => ?_
      obtain ⟨F0, H0, F, ρ, Z, sr, w, l⟩ := q
      unfold wS at w
      obtain ⟨ds, b, e1, w'⟩ := id w
      obtain ⟨a0, xs0, g1, g2, g3, g4, g5⟩ := sr.own j ds b e1
      refine ⟨_, g1, .inl ⟨rfl, xs0, .inl (.inl g2)⟩, ?_⟩
      refine ⟨F0, H0, F, ρ, Z.ex, Z.nx, sr, w, fun c F' H' z s r => l.ex c ρ σ F' H' s r z, fun ds' b' a is v F' H' e2 o1 s sr' dq lt hn => ?_⟩
      obtain ⟨a', xs, p1, p2, p3, p4, p5⟩ := sr'.own j ds' b' e2
      rw [o1] at p1
      cases p1
      rw [g1] at o1
      cases o1
      refine ⟨_, xs, v, rfl, rfl, p2, by rw [dpa_len p3]; exact lt, ?_⟩
      exact l.nx _ _ _ _ s (sr'.put e2 g1 (dpa_app p3 (.cons dq .nil))) hn
    · cases h
  | .ext j e, cm, X, W, g, st, h => by
    unfold ckS at h
    split at h
    · rename_i o p cp pos
      obtain ⟨h, c5⟩ := ba h
      obtain ⟨h, c4⟩ := ba h
      obtain ⟨h, c3⟩ := ba h
      obtain ⟨hc, c2⟩ := ba h
      obtain ⟨y, yp, apos, e1, hv⟩ := ckM_ok c2
      subst e1
      refine PS.imp (ps_expr (pe_meth1 hv PySem.F.slot_list_extend PySem.F.type_list_extend mt_extend (sE e X W g.g _ c5).pe c4 c3)) fun D σ H q => ?_
      obtain ⟨F0, H0, F, ρ, Z, sr, w, l⟩ := q
      unfold wS at w
      obtain ⟨ds, b, e1, w⟩ := ownAt_inv w
      obtain ⟨a0, xs0, g1, g2, g3, g4, g5⟩ := sr.own j ds b e1
      refine ⟨_, g1, .inl ⟨rfl, xs0, .inl (.inl g2)⟩, ?_⟩
      refine (runS (w := wE G e) sr l w).mono fun x H1 ⟨F1, r, s1, f1, v1, sr1, l1, k1⟩ => ?_
      split at k1
      · rename_i es fr
        obtain ⟨a', xs, p1, p2, p3, p4, p5⟩ := sr1.own j ds b e1
        rw [g1] at p1
        cases p1
        obtain ⟨a2, zs, q1, q2, q3, q4, q5⟩ := v1
        subst q1
        refine ⟨a0, a2, xs, zs, rfl, rfl, p2, q2, by rw [dpa_len p3, dpa_len q3]; exact k1.1, ?_⟩
        exact l1.nx _ _ _ _ (Same.refl _) (sr1.put e1 g1 (dpa_app p3 q3)) k1.2
      · exact k1.elim
    · cases h
  | .pop j, cm, X, W, g, st, h => by
    unfold ckS at h
    split at h
    · rename_i o cp pos
      obtain ⟨h, c3⟩ := ba h
      obtain ⟨hc, c2⟩ := ba h
      obtain ⟨y, yp, apos, e1, hv⟩ := ckM_ok c2
      subst e1
      refine PS.imp (ps_expr (pe_meth0' hv PySem.F.slot_list_pop PySem.F.type_list_pop mt_pop c3)) fun D σ H q => ?_
      obtain ⟨F0, H0, F, ρ, Z, sr, w, l⟩ := q
      unfold wS at w
      obtain ⟨ds, b, e1, w1, w2⟩ := ownAt_inv w
      obtain ⟨a0, xs, g1, g2, g3, g4, g5⟩ := sr.own j ds b e1
      have hl := dpa_len g3
      have hne : xs ≠ [] := fun z => by subst z; exact w1 (List.length_eq_zero_iff.mp hl.symm)
      have hp := List.length_pos_iff.mpr hne
      refine ⟨_, g1, .inl ⟨rfl, xs, .inl (.inl g2)⟩, a0, xs, xs[xs.length - 1]'(by omega), rfl, rfl, g2, List.getElem?_eq_getElem (by omega), ?_⟩
      exact l.nx _ _ _ _ (Same.refl _) (sr.put e1 g1 (dpa_dropLast g3)) w2
    · cases h
  | .appP0 j k, cm, X, W, g, st, h => by
    unfold ckS at h
    split at h
    · rename_i o o2 c i1 i2 cp2 cp pos
      obtain ⟨h, c6⟩ := ba h
      obtain ⟨h, c5⟩ := ba h
      obtain ⟨h, c4⟩ := ba h
      obtain ⟨h, c3⟩ := ba h
      obtain ⟨hc, c2⟩ := ba h
      obtain ⟨y, yp, apos, e1, hv⟩ := ckM_ok c2
      obtain ⟨y2, yp2, apos2, e2, hv2⟩ := ckM_ok c4
      have e3 := of_decide_eq_true c6
      subst e1 e2 e3
      refine PS.imp (ps_expr (pe_meth1 hv PySem.F.slot_list_append PySem.F.type_list_append mt_append (pe_meth1 hv2 PySem.F.slot_list_pop PySem.F.type_list_pop mt_popAt pe_int rfl c5) rfl c3)) fun D σ H q => ?_
      obtain ⟨F0, H0, F, ρ, Z, sr, w, l⟩ := q
      unfold wS at w
      obtain ⟨ds, b, e1, w⟩ := ownAt_inv w
      obtain ⟨es, b2, e2, w⟩ := ownAt_inv w
      split at w
      · rename_i x es
        obtain ⟨w0, w1, w2⟩ := w
        obtain ⟨a0, xs, g1, g2, g3, g4, g5⟩ := sr.own j ds b e1
        obtain ⟨a1, ys, p1, p2, p3, p4, p5⟩ := sr.own k _ b2 e2
        cases p3 with
        | cons d1 p3 =>
          rename_i y ys
          have sr2 := sr.put e2 p1 p3
          have e1' : (ρ.set k (some (R.l es true)))[j]? = some (some (R.l ds b)) := by rw [List.getElem?_set_ne (fun z => w0 z.symm)]; exact e1
          obtain ⟨a0', xs', g1', g2', g3', _, _⟩ := sr2.own j ds b e1'
          rw [g1] at g1'
          cases g1'
          refine ⟨_, g1, .inl ⟨rfl, xs, .inl (.inl g2)⟩, _, p1, .inl ⟨rfl, _, .inl (.inl p2)⟩, a1, y :: ys, 0, 0, y, rfl, rfl, p2, by decide, by decide, seqIndex_of (by decide) (by rw [List.length_cons]; omega), rfl, ?_⟩
          refine ⟨a0, xs', y, rfl, rfl, g2', by rw [dpa_len g3']; exact w1, ?_⟩
          exact l.nx _ _ _ _ (Same.refl _) (sr2.put e1' g1 (dpa_app g3' (.cons d1 .nil))) w2
      · exact w.elim
    · cases h
  | .setP0 i k, cm, X, W, g, st, h => by
    unfold ckS at h
    split at h
    · rename_i y py o2 c i1 i2 cp2 pos
      obtain ⟨h, c6⟩ := ba h
      obtain ⟨h, c5⟩ := ba h
      obtain ⟨h, c4⟩ := ba h
      obtain ⟨h, c3⟩ := ba h
      obtain ⟨hc, c2⟩ := ba h
      obtain ⟨y2, yp2, apos2, e2, hv2⟩ := ckM_ok c4
      have e3 := of_decide_eq_true c6
      subst e2 e3
      obtain ⟨l1, l2⟩ := g.lc y c3
      refine PS.imp (ps_set g.g.nd (of_decide_eq_true c2) l1 (pe_meth1 hv2 PySem.F.slot_list_pop PySem.F.type_list_pop mt_popAt pe_int rfl c5) rfl l2) fun D σ H q => ?_
      obtain ⟨F0, H0, F, ρ, Z, sr, w, l⟩ := q
      unfold wS at w
      obtain ⟨es, b2, e2, w⟩ := ownAt_inv w
      split at w
      · rename_i x es
        obtain ⟨a1, ys, p1, p2, p3, p4, p5⟩ := sr.own k _ b2 e2
        cases p3 with
        | cons d1 p3 =>
          rename_i y ys
          have sr2 := sr.put e2 p1 p3
          refine ⟨_, p1, .inl ⟨rfl, _, .inl (.inl p2)⟩, a1, y :: ys, 0, 0, y, rfl, rfl, p2, by decide, by decide, seqIndex_of (by decide) (by rw [List.length_cons]; omega), rfl, ?_⟩
          exact l.nx _ _ _ _ (Same.refl _) (sr2.setD d1 i) w
      · exact w.elim
    · cases h
  | .rev j, cm, X, W, g, st, h => by
    unfold ckS at h
    split at h
    · rename_i o cp pos
      obtain ⟨h, c3⟩ := ba h
      obtain ⟨hc, c2⟩ := ba h
      obtain ⟨y, yp, apos, e1, hv⟩ := ckM_ok c2
      subst e1
      refine PS.imp (ps_expr (pe_meth0' hv PySem.F.slot_list_reverse PySem.F.type_list_reverse mt_reverse c3)) fun D σ H q => ?_
      obtain ⟨F0, H0, F, ρ, Z, sr, w, l⟩ := q
      unfold wS at w
      obtain ⟨ds, b, e1, w2⟩ := ownAt_inv w
      obtain ⟨a0, xs, g1, g2, g3, g4, g5⟩ := sr.own j ds b e1
      refine ⟨_, g1, .inl ⟨rfl, xs, .inl (.inl g2)⟩, a0, xs, rfl, rfl, g2, ?_⟩
      exact l.nx _ _ _ _ (Same.refl _) (sr.put e1 g1 (dpa_rev g3)) w2
    · cases h
  | .sset j k e, cm, X, W, g, st, h => by
    unfold ckS at h
    split at h
    · rename_i y yp i sp v pos
      obtain ⟨h, c5⟩ := ba h
      obtain ⟨h, c4⟩ := ba h
      obtain ⟨h, c3⟩ := ba h
      obtain ⟨c1, c2⟩ := ba h
      obtain ⟨h1, h2, h3, h4⟩ := ckV_ok c1
      have hst : swappedStores [.Subscript (.Name y yp) i sp] v X.env = pure none := by cases v <;> rfl
      refine PS.imp (ps_asg (sE e X W g.g _ c4).pe (pg_sub (pe_var h1 h2 h3 h4) (sE k X W g.g _ c5).pe set_list (by intro v; cases i <;> first | rfl | (unfold plainX at c3; cases c3))) noSwapSub hst (by rfl)) fun D σ H q => ?_
      obtain ⟨F0, H0, F, ρ, Z, sr, w, l⟩ := q
      unfold wS at w
      obtain ⟨ds, b, e1, w⟩ := ownAt_inv w
      obtain ⟨a0, xs0, g1, g2, g3, g4, g5⟩ := sr.own j ds b e1
      refine (runS (w := wE G e) sr l w).mono fun x H1 ⟨F1, r, s1, f1, v1, sr1, l1, k1⟩ => ?_
      refine ⟨_, g1, ?_⟩
      refine (runS (w := wE G k) sr1 l1 k1).mono fun y H2 ⟨F2, s, s2, f2, v2, sr2, l2, k2⟩ => ?_
      obtain ⟨F3, xd, a1, a2, a3, a4, k3⟩ := frzP_ok (v1.step s2) f2 k2
      split at k3
      · rename_i i
        split at k3
        · rename_i m e3
          have ey := rv_int v2
          subst ey
          have sr3 := sr.step (step_frz (s1.trans s2) a1 a4) a2
          obtain ⟨a', xs, p1, p2, p3, p4, p5⟩ := sr3.own j ds b e1
          rw [g1] at p1
          cases p1
          refine ⟨a0, xs, i, m, rfl, rfl, p2, by rw [dpa_len p3]; exact e3, ?_⟩
          exact l2.nx _ _ _ _ a1 (sr3.put e1 g1 (dpa_set m a3 p3)) k3
        · exact k3.elim
      · exact k3.elim
    · cases h
  | .ex e, cm, X, W, g, st, h => by
    unfold ckS at h
    split at h
    · rename_i v pos
      obtain ⟨h, c3⟩ := ba h
      obtain ⟨c1, c2⟩ := ba h
      refine PS.imp (ps_expr (sE e X W g.g _ c2).pe (noSwap c1 fun a b c d z => by subst z; cases c3)) fun D σ H q => ?_
      obtain ⟨F0, H0, F, ρ, Z, sr, w, l⟩ := q
      unfold wS at w
      refine (runS (w := wE G e) sr l w).mono fun x H1 ⟨F1, r, s1, f1, v1, sr1, l1, k1⟩ => ?_
      exact l1.nx _ _ _ _ (Same.refl _) sr1 k1
    · cases h
  | .ret e, cm, X, W, g, st, h => by
    unfold ckS at h
    split at h
    · refine PS.imp (ps_ret (sE e X W g.g _ h).pe) fun D σ H q => ?_
      obtain ⟨F0, H0, F, ρ, Z, sr, w, l⟩ := q
      unfold wS at w
      refine (runS (w := wE G e) sr l w).mono fun x H1 ⟨F1, r, s1, f1, v1, sr1, l1, k1⟩ => ?_
      cases r with
      | d d => exact l1.rt _ _ _ _ (Same.refl _) sr1.ent f1 (v1.base sr.ent.h) k1
      | l ds b =>
        cases b with
        | false => exact k1.elim
        | true => exact l1.rt (.l ds true) _ _ _ (Same.refl _) sr1.ent f1 (v1.base sr.ent.h) k1
    · cases h
  | .retN, cm, X, W, g, st, h => by
    unfold ckS at h
    split at h
    · refine PS.imp ps_retN fun D σ H q => ?_
      obtain ⟨F0, H0, F, ρ, Z, sr, w, l⟩ := q
      exact l.rt (.d .none) _ _ _ (Same.refl _) sr.ent sr.fh (show Dq _ _ _ _ from Dq.non) w
    · cases h
  | .pass, cm, X, W, g, st, h => by
    unfold ckS at h
    split at h
    · refine PS.imp ps_pass fun D σ H q => ?_
      obtain ⟨F0, H0, F, ρ, Z, sr, w, l⟩ := q
      exact l.nx _ _ _ _ (Same.refl _) sr w
    · cases h
  | .brk, cm, X, W, g, st, h => by
    unfold ckS at h
    split at h
    · refine PS.imp ps_break fun D σ H q => ?_
      obtain ⟨F0, H0, F, ρ, Z, sr, w, l⟩ := q
      exact l.bk _ _ _ _ (Same.refl _) sr w
    · cases h
  | .ifs c a b, cm, X, W, g, st, h => by
    unfold ckS at h
    split at h
    · rename_i e p q pos
      obtain ⟨h, c3⟩ := ba h
      obtain ⟨c1, c2⟩ := ba h
      refine PS.imp (ps_if (sE c X W g.g _ c1).pt (sSs a cm X W g _ c2) (sSs b cm X W g _ c3)) fun D σ H q => ?_
      obtain ⟨F0, H0, F, ρ, Z, sr, w, l⟩ := q
      unfold wS at w
      refine (runS (w := wE G c) sr l w).mono fun x H1 ⟨F1, r, s1, f1, v1, sr1, l1, k1⟩ => ?_
      obtain ⟨k, e1, zz⟩ := wTru_inv k1
      subst e1
      refine ⟨k, rv_bool v1, ?_⟩
      cases k with
      | true =>
        have zz := wIf_t zz
        rw [if_pos rfl]
        exact ⟨F0, H0, F1, ρ, Z, sr1, zz, l1⟩
      | false =>
        have zz := wIf_f zz
        rw [if_neg Bool.false_ne_true]
        exact ⟨F0, H0, F1, ρ, Z, sr1, zz, l1⟩
    · cases h
  | .whl c b, cm, X, W, g, st, h => by
    unfold ckS at h
    split at h
    · rename_i e p pos
      obtain ⟨h, c2⟩ := ba h
      obtain ⟨hc, c1⟩ := ba h
      refine PS.imp (ps_while g.pa (sE c X W g.g _ c1).pt (sSs b cm X W g _ c2)) fun D σ H q => ?_
      obtain ⟨F0, H0, F, ρ, Z, sr, w, l⟩ := q
      unfold wS at w
      obtain ⟨I, ⟨m0, i0⟩, turn⟩ := w
      refine ⟨fun m σ' H' => ∃ F' ρ', Same F F' ∧ SR X.K F0 H0 F' ρ' σ' H' ∧ I m ρ', ⟨m0, F, ρ, Same.refl _, sr, i0⟩, ?_⟩
      rintro m σ1 H1 ⟨F1, ρ1, sf, sr1, i1⟩
      have t1 := turn m ρ1 i1
      have l1 := l.mono sf
      refine (runS (w := wE G c) sr1 l1 t1).mono fun x H2 ⟨F2, r, s2, f2, v2, sr2, l2, k2⟩ => ?_
      obtain ⟨k, e1, zz⟩ := wTru_inv k2
      subst e1
      refine ⟨k, rv_bool v2, ?_⟩
      cases k with
      | true =>
        have zz := wIf_t zz
        rw [if_pos rfl]
        refine ⟨fun σ' H' => ∃ m', m' < m ∧ ∃ F' ρ', Same F F' ∧ SR X.K F0 H0 F' ρ' σ' H' ∧ I m' ρ', fun σ' H' z => z, ?_⟩
        refine ⟨F0, H0, F2, ρ1, _, sr2, zz, ⟨fun ρ' σ' F' H' a b c => ?_, fun ρ' σ' F' H' a b c => l2.nx ρ' σ' F' H' a b c, l2.rt, l2.ex⟩⟩
        obtain ⟨m', hm, c⟩ := c
        exact ⟨m', hm, F', ρ', sf.trans (s2.f.trans a), b, c⟩
      | false =>
        have zz := wIf_f zz
        rw [if_neg Bool.false_ne_true]
        exact l2.nx _ _ _ _ (Same.refl _) sr2 zz
    · cases h
  | .for_ tg it b, cm, X, W, g, st, h => by
    unfold ckS at h
    split at h
    · rename_i t i p pos
      obtain ⟨h, c3⟩ := ba h
      obtain ⟨h, c2⟩ := ba h
      obtain ⟨hc, c1⟩ := ba h
      have hc := g.g.calm hc
      obtain ⟨pi, nf⟩ := sI it X W g.g t i c2 hc
      refine PS.imp (ps_for g.pa hc pi (pg_of g.lc g.g.nd hc c1) (sSs b cm X W g _ c3) nf) fun D σ H q => ?_
      obtain ⟨F0, H0, F, ρ, Z, sr, w, l⟩ := q
      unfold wS at w
      refine ⟨F0, H0, F, ρ, _, _, SX.at sr l, w, fun ds b J F1 H1 hl s1 f1 js hz => ?_⟩
      obtain ⟨hb, hl⟩ := hl
      subst hb
      have l1 := l.mono s1.f
      have sr1 := sr.step s1 f1
      refine ⟨fun i m σ' H' => m = ds.length - i ∧ i ≤ ds.length ∧ ∃ F' ρ', Same F1 F' ∧ SR X.K F0 H0 F' ρ' σ' H' ∧ forLoop (stT tg) (wSs G b) Z (ds.drop i) ρ', ⟨ds.length, by simp, Nat.zero_le _, F1, ρ, Same.refl _, sr1, by simpa using hl⟩, ?_⟩
      rintro i m σ2 H2 ⟨rfl, hi2, F2, ρ2, sf, sr2, hw⟩
      have j2 := js F2 H2 sf sr2.fh (fun z => nomatch z)
      have l2 := l1.mono sf
      by_cases hlt : i < ds.length
      · obtain ⟨d, hd⟩ : ∃ d, ds[i]? = some d := ⟨ds[i], List.getElem?_eq_getElem hlt⟩
        obtain ⟨go, yl⟩ := j2.1 i d hd
        have ed : ds.drop i = d :: ds.drop (i + 1) := by
          rw [List.drop_eq_getElem_cons hlt]
          rw [List.getElem?_eq_getElem hlt] at hd
          rw [Option.some.inj hd]
        rw [ed] at hw
        refine .inr ⟨go, fun σ' H' => ∃ F' ρ', Same F1 F' ∧ SR X.K F0 H0 F' ρ' σ' H' ∧ forLoop (stT tg) (wSs G b) Z (ds.drop (i + 1)) ρ', fun σ' H' z => ⟨_, by omega, rfl, by omega, z⟩, fun x H3 y => ?_⟩
        obtain ⟨F3, s3, f3, hx⟩ := yl x H3 y
        have sr3 := sr2.step s3 f3
        have l3 := l2.mono s3.f
        refine gT_ok sr3 hx hw fun ρ' σ' sr' hw' _ => ?_
        refine ⟨F0, H0, F3, ρ', _, sr', hw', ⟨fun ρ4 σ4 F4 H4 a b c => ⟨F4, ρ4, sf.trans (s3.f.trans a), b, c⟩, fun ρ4 σ4 F4 H4 a b c => l3.nx ρ4 σ4 F4 H4 a b c, l3.rt, l3.ex⟩⟩
      · have e1 : i = ds.length := by omega
        subst e1
        rw [List.drop_length] at hw
        exact .inl ⟨j2.2, l2.nx _ _ _ _ (Same.refl _) sr2 hw⟩
    · cases h
  | .rais c, cm, X, W, g, st, h => by
    unfold ckS at h
    split at h
    · obtain ⟨h, c2⟩ := ba h
      obtain ⟨hc, c1⟩ := ba h
      obtain ⟨e, g1, g2⟩ := ckG_ok c2
      subst e
      have xt := g.xc c (by simpa using c1)
      refine PS.imp (ps_raise (g.g.calm hc) g.g.tk (pmk_own PySem.F.excBase_ValueError xt.exc xt.at_ xt.keep (raises_own xt.sub xt.typ) (Gl_of g1) g2)) fun D σ H q => ?_
      obtain ⟨F0, H0, F, ρ, Z, sr, w, l⟩ := q
      unfold wS at w
      exact l.ex c ρ σ F H (Same.refl _) sr w
    · cases h
  | .try1 b c hd xs, cm, X, W, g, st, h => by
    unfold ckS at h
    split at h
    · rename_i p x np q qs pos' pos
      obtain ⟨h, c5⟩ := ba h
      obtain ⟨h, c4⟩ := ba h
      obtain ⟨h, c3⟩ := ba h
      obtain ⟨h, c2⟩ := ba h
      obtain ⟨hc, c7⟩ := ba h
      have hc' := g.g.calm hc
      obtain ⟨e, g1, g2⟩ := ckG_ok c3
      subst e
      have hcx : c ∈ T.xcs := by simpa using c2
      have xt := g.xc c hcx
      refine PS.imp (ps_try_only (c := clsV X.K T c) (tb := fun W' => tS X.K T W' (wSs G b)) (ts := fun _ _ _ => tS X.K T W0 (wSs G hd)) (Wout := W) g.st g.fr ⟨Gl_of g1, g2, .inl xt.at_⟩ g.g.tk (fun W' pn xe tk' pa' => sSs b cm (X.tr pn xe) W' (gs_tr g tk' pa') p c4)
        (fun a oe cls d pn _ _ => sSs hd false (X.suite a ((a, oe) :: pn)) W0 (gs_suite g) (q :: qs) c5)) fun D σ H q => ?_
      obtain ⟨F0, H0, F, ρ, Z, sr, w, l⟩ := q
      unfold wS at w
      refine ⟨F0, H0, F, ρ, _, sr, w, ⟨l.nx, l.bk, l.rt, fun c' ρ' σ' F' H' a b z => ?_⟩⟩
      obtain ⟨z7, z⟩ := (show c' ∈ xs ∧ wIf (isa c' c) (wSs G hd { Z with ex := fun _ _ => False } ρ') (Z.ex c' ρ') from z)
      have z1 : c' ∈ T.xcs := by simpa using List.all_eq_true.mp c7 c' z7
      refine ⟨isa c' c, g.xm c' z1 c hcx, fun hi a1 _ => ?_, fun hi => ?_⟩
      · have z := z.1 hi
        exact ⟨F0, H0, F', ρ', _, b, z, ⟨fun ρ4 σ4 F4 H4 a2 => l.nx ρ4 σ4 F4 H4 (a.trans a2), fun ρ4 σ4 F4 H4 a2 => l.bk ρ4 σ4 F4 H4 (a.trans a2), fun r v F4 H4 a2 => l.rt r v F4 H4 (a.trans a2), fun _ _ _ _ _ _ _ z => z.elim⟩⟩
      · have z := z.2 hi
        exact l.ex c' ρ' σ' F' H' a b z
    · cases h
  | .tryE b c i hd xs, cm, X, W, g, st, h => by
    unfold ckS at h
    split at h
    · rename_i p x np nm q qs pos' pos
      obtain ⟨h, c8⟩ := ba h
      obtain ⟨h, c6⟩ := ba h
      obtain ⟨h, c5⟩ := ba h
      obtain ⟨h, c4⟩ := ba h
      obtain ⟨h, c3⟩ := ba h
      obtain ⟨h, c2⟩ := ba h
      obtain ⟨hc, c7⟩ := ba h
      have hc' := g.g.calm hc
      obtain ⟨e, g1, g2⟩ := ckG_ok c3
      subst e
      have hcx : c ∈ T.xcs := by simpa using c2
      have xt := g.xc c hcx
      have hi : X.N[i]? = some nm := of_decide_eq_true c6
      have hln : X.env.kindOf nm = some .local := by
        have c9 : X.env.scope.names.lookup nm = some .local := by simpa using c8
        exact c9
      refine PS.imp (ps_try_as (c := clsV X.K T c) (i := i) (tb := fun W' => tS X.K T W' (wSs G b)) (ts := fun a cls d D σ H => ∃ c', c' ∈ T.xcs ∧ c' ∈ T.xks ∧ cls = clsV X.K T c' ∧ d = none ∧ tHd X.K i a c' hd D σ H) (Wout := W) g.st g.fr g.g.nd hi hln ⟨Gl_of g1, g2, .inl xt.at_⟩ g.g.tk (fun W' pn xe tk' pa' => sSs b cm (X.tr pn xe) W' (gs_tr g tk' pa') p c4)
        (fun a oe cls d pn hz hf => ⟨fun pins s σ H D J hh => ?_⟩)) fun D σ H q => ?_
      · obtain ⟨c', h1, h2, rfl, rfl, hh⟩ := hh
        exact (hs_at (a := a) (pn := pn) g h1 (g.xi c' h2) hz hf hd (q :: qs) c5).run pins s σ H D J hh
      obtain ⟨F0, H0, F, ρ, Z, sr, w, l⟩ := q
      unfold wS at w
      refine ⟨F0, H0, F, ρ, _, sr, w, ⟨l.nx, l.bk, l.rt, fun c' ρ' σ' F' H' a b z => ?_⟩⟩
      obtain ⟨z7, il0, z⟩ := (show c' ∈ xs ∧ i < ρ'.length ∧ wIf (isa c' c) (hsem c' hd (fun ρ2 => Z.nx (ρ2.set i none)) (ρ'.set i none)) (Z.ex c' ρ') from z)
      obtain ⟨z1, z2⟩ := ba (show (T.xcs.contains c' && T.xks.contains c') = true from List.all_eq_true.mp c7 c' z7)
      have z1 : c' ∈ T.xcs := by simpa using z1
      have z2 : c' ∈ T.xks := by simpa using z2
      refine ⟨isa c' c, g.xm c' z1 c hcx, fun hi2 a1 _ => ?_, fun hi2 => ?_⟩
      · have z := z.1 hi2
        have il : i < σ'.length := by rw [b.len]; exact il0
        refine ⟨c', z1, z2, rfl, rfl, ?_, F0, H0, F', _, _, b.setNone i (some (.ref a1)), z, fun ρ4 σ4 F4 H4 a2 b2 k2 => ?_⟩
        · rw [List.getElem?_set_self il]
        · exact l.nx _ _ _ _ (a.trans a2) (b2.unset i) k2
      · have z := z.2 hi2
        exact l.ex c' ρ' σ' F' H' a b z
    · cases h
  | .dsrt it jn jp js jv own es ex ey, cm, X, W, g, st, h => by
    unfold ckS at h
    cases h
  | .frz i, cm, X, W, g, st, h => by
    unfold ckS at h
    cases h
theorem sSs {T : Tb} {G : Nat → DSp} {n : Nat} : ∀ (ss : Ss) (cm : Bool) (X : Cx) (W : WX) (g : GS T G n cm W X) (sts : List Stmt), ckSs T X.N cm X.env.scope ss sts = true → PSs X sts (tS X.K T W (wSs G ss))
  | .nil, cm, X, W, g, sts, h => by
    unfold ckSs at h
    split at h
    · refine PSs.imp pss_nil fun D σ H q => ?_
      obtain ⟨F0, H0, F, ρ, Z, sr, w, l⟩ := q
      exact l.nx _ _ _ _ (Same.refl _) sr w
    · cases h
  | .cons s ss, cm, X, W, g, sts, h => by
    unfold ckSs at h
    split at h
    · rename_i i
      refine PSs.imp (sSs ss cm X W g sts h) fun D σ H q => ?_
      obtain ⟨F0, H0, F, ρ, Z, sr, w, l⟩ := q
      unfold wSs wS at w
      unfold frzS at w
      split at w
      · rename_i ds b e
        obtain ⟨F', sr', sf⟩ := sr.frz e
        exact ⟨F0, H0, F', _, Z, sr', w, l.mono sf⟩
      · exact ⟨F0, H0, F, ρ, Z, sr, w, l⟩
      · exact w.elim
    · split at h
      · refine PSs.imp (ds_ok g h) fun D σ H q => ?_
        obtain ⟨F0, H0, F, ρ, Z, sr, w, l⟩ := q
        unfold wSs wS at w
        exact ⟨F0, H0, F, ρ, _, sr, w, ⟨fun ρ' σ' F' H' a b c => l.nx ρ' σ' F' H' a b (by unfold wSs at c; exact c), l.bk, l.rt, l.ex⟩⟩
      · cases h
    · split at h
      · rename_i p ps
        obtain ⟨h1, h2⟩ := ba h
        refine PSs.imp (pss_cons (sS s cm X W g p h1) (sSs ss cm X W g ps h2)) fun D σ H q => ?_
        obtain ⟨F0, H0, F, ρ, Z, sr, w, l⟩ := q
        unfold wSs at w
        refine ⟨F0, H0, F, ρ, _, sr, w, ⟨fun ρ' σ' F' H' a b c => ?_, l.bk, l.rt, l.ex⟩⟩
        exact ⟨F0, H0, F', ρ', Z, b, c, l.mono a⟩
      · cases h
end
end DL
end
section
set_option maxRecDepth 100000
set_option maxHeartbeats 4000000
namespace DL
open PySem PySem.Spec PyProof.Rows L2
structure Wd (P : Program) (w : World) (K : PySem.W.Frag) (mg : Str → Option Value) (T : Tb) : Prop where
  gl : ∀ k ∈ T.gls, ∃ u v, mg (T.gl k) = some u ∧ RelV v u ∧ Dq K (fun _ => none) v (glD k)
  bi : ∀ b : Bi, mg (bname b) = none
  bo : ∀ x ∈ ["isinstance", "range", "enumerate", "zip", "reversed", "int", "bool", "str", "tuple", "list", "sorted", "set"], mg (Str.ofString x) = none
  xa : ∀ c ∈ T.xcs, mg (T.xc c) = some (clsV K T c)
  xe : ∀ c ∈ T.xcs, PySem.W.excIn K (He.ga K (T.xc c)) He.veBase "ValueError.__new__" = true ∧ PySem.W.keepIn K (clsV K T c) = true ∧ PySem.W.subIn K (clsV K T c) (.type "BaseException") = some true ∧ PySem.W.typeIn K (clsV K T c) = some (.type "type")
  xm : ∀ c ∈ T.xcs, ∀ d ∈ T.xcs, PySem.W.exmOne K (clsV K T c) (clsV K T d) = some (isa c d)
  xi : ∀ c ∈ T.xks, XcI K mg T c
def FnP (P : Program) (w : World) (K : PySem.W.Frag) (mg : Str → Option Value) (base : Heap) (T : Tb) (G : Nat → DSp) (k f : Nat) : Prop :=
  ∃ (a : Addr) (fd : FuncData) (ps : List Str), FnOk P w K mg base (L2.CX P w) k a fd ps (lift K T (G f)) ∧ mg (T.fn f) = some (.ref a) ∧ PySem.W.keepIn K (.ref a) = true ∧ Binds K fd ps []
def dstart (N : List Str) (ds : List D) : En := ds.map (fun d => some (R.d d)) ++ List.replicate (N.length - ds.length) none
def endOf (Q : R → Prop) (X : Nat → Prop) : DE := ⟨fun _ => Q (.d .none), Q, fun _ => False, fun c _ => X c⟩
section
variable {P : Program} {w : World} {K : PySem.W.Frag} {mg : Str → Option Value} {base : Heap} {T : Tb} {G : Nat → DSp}
theorem sr_start {N : List Str} {F H : Hp} {vs : List V} {ds : List DL.D} (fh : Same F H) (h : DqAll K F vs ds) : SR K F H F (dstart N ds) (L2.start N vs) H where
  fh := fh
  ent := Step.refl
  len := by
    unfold L2.start dstart
    rw [List.length_append, List.length_append, List.length_map, List.length_map, List.length_replicate, List.length_replicate, dpa_len h]
  val := fun i x e => by
    unfold dstart at e
    unfold L2.start
    by_cases hi : i < ds.length
    · rw [List.getElem?_append_left (by rw [List.length_map]; exact hi), List.getElem?_map] at e
      cases q : ds[i]? with
      | none => rw [q] at e; cases e
      | some d =>
        rw [q] at e
        cases e
        obtain ⟨v, h1, h2⟩ := dpa_get h q
        refine ⟨v, ?_, h2⟩
        rw [List.getElem?_append_left (by rw [List.length_map, dpa_len h]; exact hi), List.getElem?_map, h1]
        rfl
    · rw [List.getElem?_append_right (by rw [List.length_map]; omega), List.getElem?_replicate] at e
      split at e <;> cases e
  own := fun i es b e => by
    exfalso
    unfold dstart at e
    by_cases hi : i < ds.length
    · rw [List.getElem?_append_left (by rw [List.length_map]; exact hi), List.getElem?_map] at e
      cases q : ds[i]? with
      | none => rw [q] at e; cases e
      | some d => rw [q] at e; cases e
    · rw [List.getElem?_append_right (by rw [List.length_map]; omega), List.getElem?_replicate] at e
      split at e <;> cases e
  sep := fun i j es fs b c a _ e => by
    exfalso
    unfold dstart at e
    by_cases hi : i < ds.length
    · rw [List.getElem?_append_left (by rw [List.length_map]; exact hi), List.getElem?_map] at e
      cases q : ds[i]? with
      | none => rw [q] at e; cases e
      | some d => rw [q] at e; cases e
    · rw [List.getElem?_append_right (by rw [List.length_map]; omega), List.getElem?_replicate] at e
      split at e <;> cases e
theorem def_okF {k f : Nat} {a : Addr} {fd : FuncData} {qual : Str} {params : Arguments} {body : List Stmt} {scope : Scope} {N ps : List Str} {cal : List Nat} {mini : Ss} (wd : Wd P w K mg T)
    {x : Str} (F : FunD K x qual params body scope [] [] a fd) (S : FnScope N ps scope)
    (hc : ∀ g ∈ cal, FnP P w K mg base T G k g) (ck : ckSs { T with fns := cal } N true scope mini body = true)
    (hw : ∀ ds Q X, G f ds Q X → ds.length = ps.length ∧ wSs G mini (endOf Q X) (dstart N ds)) : FnOk P w K mg base (L2.CX P w) (k + 1) a fd ps (lift K T (G f)) := by
  refine F.ok S (fun vs H Q E h => ?_) (fun cdv A outer s H vs Q E hr h => ?_)
  · obtain ⟨F0, ds, P1, PE, fh, hd, hg, _⟩ := h
    rw [dpa_len hd]
    exact (hw ds P1 PE hg).1
  · obtain ⟨F0, ds, P1, PE, fh, hd, hg, post, pex⟩ := h
    have tk : Takes (cxOf (L2.CX P w) P w K mg base N qual scope a cdv A outer s H E) (fun cls d _ H => E cls d H) := takes_of rfl rfl rfl rfl
    have gs : GS { T with fns := cal } G k true (fun cls d _ H => E cls d H) (cxOf (L2.CX P w) P w K mg base N qual scope a cdv A outer s H E) := by
      refine ⟨⟨fun _ => hr, fun _ => rfl, ?_, fun g hg => ?_, wd.gl, wd.bi, wd.bo, tk, S.nd⟩, passes_of rfl, fun x hx => ?_, rfl, rfl, S.kind, fun c hc => ?_, wd.xm, fun c hc => let z := wd.xi c hc; ⟨z.ex, z.ve, z.xv⟩⟩
      · have := hr.un
        show _ + 200 < _
        have e : (cxOf (L2.CX P w) P w K mg base N qual scope a cdv A outer s H E).A = A.deeper (envOfC qual scope s.heap.objs.size a cdv) := rfl
        rw [e]
        omega
      · obtain ⟨b, fd2, ps2, h1, h2, h3, h4⟩ := hc g hg
        exact ⟨k, b, fd2, ps2, Nat.le_refl _, h1, h2, h3, h4⟩
      · cases q : scope.names.lookup x with
        | none =>
          have hx : isLoc (scope.names.lookup x) = true := hx
          rw [q] at hx
          cases hx
        | some kd =>
          have hx : isLoc (scope.names.lookup x) = true := hx
          rw [q] at hx
          cases kd with
          | «local» => exact ⟨.inl q, .inl rfl⟩
          | cell => exact ⟨.inr q, .inl rfl⟩
          | _ => cases hx
      · obtain ⟨h1, h2, h3, h4⟩ := wd.xe c hc
        exact ⟨wd.xa c hc, h1, h2, h3, h4⟩
    refine ⟨_, sSs mini true _ _ gs body ck, F0, H, F0, dstart N ds, endOf P1 PE, sr_start fh hd, (hw ds P1 PE hg).2, ?_⟩
    refine ⟨fun ρ' σ' F' H' s1 sr h => ?_, fun _ _ _ _ _ _ h => h.elim, fun r v F' H' s1 st f1 rv h => post r v F' H' h st f1 rv, fun c ρ' σ' F' H' s1 sr h => pex c F' H' h sr.ent sr.fh⟩
    exact post (.d .none) .non F' H' h sr.ent sr.fh (show Dq _ _ _ _ from Dq.non)
theorem def_ok {k f : Nat} {a : Addr} {fd : FuncData} {qual : Str} {params : Arguments} {body : List Stmt} {scope : Scope} {N ps : List Str} {cal : List Nat} {mini : Ss} (wd : Wd P w K mg T)
    (F : FunD K (T.fn f) qual params body scope [] [] a fd) (hm : mg (T.fn f) = some (.ref a)) (S : FnScope N ps scope) (hb : Binds K fd ps [])
    (hc : ∀ g ∈ cal, FnP P w K mg base T G k g) (ck : ckSs { T with fns := cal } N true scope mini body = true)
    (hw : ∀ ds Q X, G f ds Q X → ds.length = ps.length ∧ wSs G mini (endOf Q X) (dstart N ds)) : FnP P w K mg base T G (k + 1) f :=
  ⟨a, fd, ps, def_okF wd F S hc ck hw, hm, F.kp, hb⟩
end
def noLst (K : PySem.W.Frag) : Bool := K.all fun p => match p.2.cls with
  | .type c => !(decide (c = "list"))
  | _ => true
theorem lk_mem {a : Addr} {o : Obj} : ∀ {K : List (Addr × Obj)}, K.lookup a = some o → (a, o) ∈ K
  | [], h => by cases h
  | (b, u) :: K, h => by
    rw [List.lookup_cons] at h
    split at h
    · rename_i e
      cases h
      rw [eq_of_beq e]
      exact List.mem_cons_self
    · exact List.mem_cons_of_mem _ (lk_mem h)
theorem noLst_ok {K : PySem.W.Frag} (h : noLst K = true) {a : Addr} {o : Obj} (e : K.lookup a = some o) : o.cls ≠ .type "list" := by
  have hm := lk_mem e
  have := List.all_eq_true.mp h _ hm
  intro z
  rw [z] at this
  cases this
def xiB (K : PySem.W.Frag) (x : Str) : Bool := excB K (He.ga K x) && decide (PySem.W.kitOne K (.ref (He.ga K x)) (.type "ValueError") = some true)
def tbOk (K : PySem.W.Frag) (p : Str × List Int) : Bool := if p.2 == [-77] then xiB K p.1 else He.tupB K p.1 (p.2.map He.Dv.int)
def obsE (fa : List He.Fa) (fn : List He.DefD) (tb : List (Str × List Int)) (K : PySem.W.Frag) : He.AlD × Bool := (He.obsD fa fn K, noLst K && tb.all fun p => tbOk K p)
def valE (fn : List He.DefD) : He.AlD × Bool := (He.valD fn, true)
structure SaysE (fa : List He.Fa) (fn : List He.DefD) (tb : List (Str × List Int)) (K : PySem.W.Frag) : Prop where
  d : He.SaysD fa fn K
  nl : noLst K = true
  tb : ∀ p ∈ tb, tbOk K p = true
theorem saysE_of {fa : List He.Fa} {fn : List He.DefD} {tb : List (Str × List Int)} {K : PySem.W.Frag} (e : obsE fa fn tb K = valE fn) : SaysE fa fn tb K := by
  have e1 := congrArg (fun z : He.AlD × Bool => z.1) e
  have e2 : (noLst K && tb.all fun p => tbOk K p) = true := congrArg (fun z : He.AlD × Bool => z.2) e
  obtain ⟨h1, h2⟩ := ba e2
  exact ⟨e1, h1, fun p hp => List.all_eq_true.mp h2 p hp⟩
def obsEG (n : Nat) (fa : List He.Fa) (fn : List He.DefD) (tb : List (Str × List Int)) (g : Addr → Option Obj) : He.AlD × Bool := obsE fa fn tb (He.frG g (He.asD g n))
def hookE (n : Nat) (fa : List He.Fa) (fn : List He.DefD) (tb : List (Str × List Int)) : PySem.W.Hook where
  α := He.AlD × Bool
  obs := fun s => obsEG n fa fn tb s.heap.get?
  val := fun _ => valE fn
  says := fun _ h => ∃ K : PySem.W.Frag, K.In h ∧ SaysE fa fn tb K
  of := fun _ _ e => ⟨_, He.frG_in, saysE_of e⟩
  keeps := fun _ _ _ ⟨K, hK, c⟩ k => ⟨K, PySem.W.Frag.In.keeps hK k, c⟩
theorem obsEG_eq {n : Nat} {fa : List He.Fa} {fn : List He.DefD} {tb : List (Str × List Int)} {g : Addr → Option Obj} {s : Shared} (h : ∀ a, g a = s.heap.get? a) : obsEG n fa fn tb g = (hookE n fa fn tb).obs s := by
  have e : g = s.heap.get? := funext h
  rw [e] <;> rfl
def LawSp (G : Nat → DSp) (f : Nat) : Prop := ∀ ns : List Int, ns.length ≤ 63 → ∀ (Q : R → Prop) (X : Nat → Prop), Q (.d (.bool true)) → G f [.list (ns.map .int)] Q X
def spLaw (K : PySem.W.Frag) : Sp := fun vs H Q _ => ∃ (a : Addr) (ns : List Int), vs = [.ref a] ∧ SqL K H a (ns.map V.int) ∧ ns.length ≤ 63 ∧ ∀ H', Q (.bl true) H'
theorem law_end {P : Program} {w : World} {K : PySem.W.Frag} {mg : Str → Option Value} {base : Heap} {T : Tb} {G : Nat → DSp} {k f : Nat} (nl : noLst K = true) (hl : LawSp G f) {a : Addr} {fd : FuncData} {ps : List Str}
    (F : FnOk P w K mg base (L2.CX P w) k a fd ps (lift K T (G f))) : FnOk P w K mg base (L2.CX P w) k a fd ps (spLaw K) := by
  refine F.imp fun vs H Q E h => ?_
  obtain ⟨b, ns, e, hq, hn, post⟩ := h
  subst e
  have rd : Rd H b (.lst (ns.map V.int)) := by
    rcases hq with h | ⟨o, its, n, h1, h2, _⟩
    · exact h
    · exact absurd h2 (noLst_ok nl h1)
  refine ⟨H, [.list (ns.map .int)], fun r => r = .d (.bool true), fun _ => False, Same.refl _, .cons (.lst rd (dpa_of_ints ns)) .nil, hl ns hn _ _ rfl, fun r v F' H' h _ _ rv => ?_, fun _ _ _ h => h.elim⟩
  subst h
  rw [rv_bool rv]
  exact post H'
end DL
namespace DL
open PySem PySem.Spec PyProof.Rows L2
theorem all_nil {α : Type} {P : α → Prop} : ∀ c ∈ ([] : List α), P c := fun _ h => nomatch h
theorem all_cons {α : Type} {P : α → Prop} {a : α} {l : List α} (h : P a) (t : ∀ c ∈ l, P c) : ∀ c ∈ a :: l, P c := fun c hc => by
  rcases List.mem_cons.mp hc with e | e
  · rw [e]; exact h
  · exact t c e
theorem FnP.mono {P : Program} {w : World} {K : PySem.W.Frag} {mg : Str → Option Value} {base : Heap} {T : Tb} {G : Nat → DSp} {j k f : Nat} (h : FnP P w K mg base T G j f) (l : j ≤ k) : FnP P w K mg base T G k f :=
  let ⟨a, fd, ps, h1, h2, h3, h4⟩ := h
  ⟨a, fd, ps, h1.mono l, h2, h3, h4⟩
end DL
namespace DL
open PySem PySem.Spec PyProof.Rows L2
def LawAt (l : PySem.W.OpenLaw) (YP : World → Heap → Prop) (nm x : Str) (k : Nat) : Prop := ∀ w mg fa h, YP w h → h.Ns mainGlobals mg → mg nm = some (Value.ref fa) → ∃ K fd,
  PySem.W.Frag.In K h ∧ (∀ s u, BindsTo s fd ⟨[u], []⟩ [(x, u)]) ∧ ∀ base, PySem.W.Frag.In K base → base.Ns mainGlobals mg → FnOk l.prog w K mg base (L2.CX l.prog w) k fa fd [x] (spLaw K)
theorem cx_end {P : Program} (w : World) (H : Hp) (s : Shared) (e : Value) (s' : Shared) (h : L2.CX P w [] H s (fun _ _ _ => False) e s') : False := by
  obtain ⟨_, _, _, _, _, _, _, _, _, _, _, _, z⟩ := h
  exact z
theorem walk_w {l : PySem.W.OpenLaw} {k : Nat} {q : Program} {loose : List Str} {XP : (Str → Option Value) → Heap → Prop} {YP : World → Heap → Prop} {d : DefRec} {x : Str} (hn : l.most = some 63) (hd : d.params.defaults = []) (hr : Room k callerA) (F : LawAt l YP d.name x k) :
    PySem.W.WalkO q loose XP YP l.row.toRowW d [] (fun f vs => PySem.call f vs) :=
  Att.attach_call hn hd fun w s0 s1 mg mb fa o pm cd doc a vs ns G Y _ _ _ em _ hi hl hg =>
    let ⟨_, _, hK, hb, hF⟩ := F w mg fa _ Y G.T.g em
    law_call hK G.T.g G.T.b G.T.builtins G.T.nolimit hg (by assumption) hi (Nat.le_trans hl (by decide)) hr hF hb (fun H _ hS => ⟨a, ns, rfl, hS, hl, fun _ => rfl⟩) fun H e s' => cx_end w H s1 e s'
end DL
end
section
set_option maxRecDepth 100000
set_option maxHeartbeats 4000000
namespace DL
open PySem L2
def dst (n : Nat) (ds : List D) : En := ds.map (fun d => some (R.d d)) ++ List.replicate (n - ds.length) none
def FnW (G : Nat → DSp) (n np : Nat) (m : Ss) (sp : DSp) : Prop := ∀ ds Q X, sp ds Q X → ds.length = np ∧ wSs G m (endOf Q X) (dst n ds)
theorem gC {G : Nat → DSp} {f : Nat} {sp : DSp} {ds : List D} {Q : R → Prop} {X : Nat → Prop} (h : G f = sp) (p : sp ds Q X) : G f ds Q X := by rw [h]; exact p
def Bd (n : Nat) (x : Int) : Prop := x.natAbs < 2 ^ n
instance {n : Nat} {x : Int} : Decidable (Bd n x) := inferInstanceAs (Decidable (_ < _))
theorem Bd.mono {m n : Nat} {x : Int} (h : Bd m x) (l : m ≤ n) : Bd n x := Nat.lt_of_lt_of_le h (Nat.pow_le_pow_right (by decide) l)
theorem Bd.le {n : Nat} {x y : Int} (h : Bd n y) (l : x.natAbs ≤ y.natAbs) : Bd n x := Nat.lt_of_le_of_lt l h
theorem Bd.mul {m n : Nat} {x y : Int} (h : Bd m x) (g : Bd n y) : Bd (m + n) (x * y) := wide_lt h g
theorem Bd.add {m n : Nat} {x y : Int} (h : Bd m x) (g : Bd n y) : Bd (max m n + 1) (x + y) := by
  have h1 := h.mono (Nat.le_max_left m n)
  have h2 := g.mono (Nat.le_max_right m n)
  unfold Bd at *
  rw [Nat.pow_succ]
  omega
theorem Bd.sub {m n : Nat} {x y : Int} (h : Bd m x) (g : Bd n y) : Bd (max m n + 1) (x - y) := by
  have h1 := h.mono (Nat.le_max_left m n)
  have h2 := g.mono (Nat.le_max_right m n)
  unfold Bd at *
  rw [Nat.pow_succ]
  omega
theorem Bd.neg {m : Nat} {x : Int} (h : Bd m x) : Bd m (-x) := by unfold Bd at *; omega
theorem mul_ok {m n : Nat} {x y : Int} (h : Bd m x) (g : Bd n y) (l : m + n ≤ 999990) : MulOk x y :=
  (wide_mul (h.mono (Nat.le_succ m)) (g.mono (Nat.le_succ n)) (Nat.succ_pos _) (Nat.succ_pos _) (by omega)).ok
theorem div_ok {n : Nat} {x y : Int} (g : Bd n y) (l : n ≤ 8999) : DivOk x y :=
  PyProof.noPylong_of_log2 (Nat.lt_of_lt_of_le (PySem.Flt.log2_lt_of (Nat.succ_pos n) (g.mono (Nat.le_succ n))) (by omega))
theorem mul_l {x y : Int} (h : -(2 ^ 64) < x) (g : x < 2 ^ 64) : MulOk x y := CMul.ok (.inl ⟨h, g⟩)
theorem mul_r {x y : Int} (h : -(2 ^ 64) < y) (g : y < 2 ^ 64) : MulOk x y := CMul.ok (.inr ⟨h, g⟩)
theorem div_lit {x y : Int} (h : y.natAbs < 2 ^ 1000) : DivOk x y := div_ok (n := 1000) h (by decide)
theorem bd_of {n : Nat} {x : Int} (h : -(2 ^ n : Nat) < x) (g : x < (2 ^ n : Nat)) : Bd n x := by
  unfold Bd
  omega
theorem bd_self (x : Int) : Bd (x.natAbs.log2 + 1) x := Nat.lt_log2_self
theorem wIf_tt {a b : Prop} (h : a) : wIf true a b := ⟨fun _ => h, fun z => nomatch z⟩
theorem wIf_ff {a b : Prop} (h : b) : wIf false a b := ⟨(fun z => nomatch z), fun _ => h⟩
theorem wIf_not {k : Bool} {a b : Prop} (h : wIf k b a) : wIf (!k) a b := by
  cases k
  · exact ⟨fun _ => h.2 rfl, fun z => nomatch z⟩
  · exact ⟨(fun z => nomatch z), fun _ => h.1 rfl⟩
theorem bd40 {x : Int} (h : -1099511627776 < x) (g : x < 1099511627776) : Bd 40 x := bd_of h g
theorem bd130 {x : Int} (h : -(2 ^ 130) < x) (g : x < 2 ^ 130) : Bd 130 x := bd_of h g
theorem bd210 {x : Int} (h : -(2 ^ 210) < x) (g : x < 2 ^ 210) : Bd 210 x := bd_of h g
theorem isi_ok {d : D} {t : String} {b : Bool} (h : kitB (tyD d) t = some b) : isiOk d t := fun z => by rw [h] at z; cases z
theorem forLoop_ind {st : D → En → (En → Prop) → Prop} {body : DE → En → Prop} {E : DE} (P : List D → En → Prop) (h0 : ∀ ρ, P [] ρ → E.nx ρ)
    (h1 : ∀ d ds ρ, P (d :: ds) ρ → ∀ nx : En → Prop, (∀ ρ', P ds ρ' → nx ρ') → st d ρ fun ρ2 => body { E with nx := nx, bk := E.nx } ρ2) :
    ∀ ds ρ, P ds ρ → forLoop st body E ds ρ := by
  intro ds
  induction ds with
  | nil => exact h0
  | cons d ds ih => exact fun ρ h => h1 d ds ρ h _ ih
theorem lc_ind {st : D → En → (En → Prop) → Prop} {tt : En → (Bool → Prop) → Prop} {el : En → (R → Prop) → Prop} {ρ : En} {Q : R → Prop} (P : List D → List D → Prop) (h0 : ∀ acc, P [] acc → Q (.l acc true))
    (h1 : ∀ d ds acc, P (d :: ds) acc → ∀ k : List D → Prop, (∀ acc', P ds acc' → k acc') → st d ρ fun ρ2 => tt ρ2 fun b => wIf b (el ρ2 fun r => frzP r fun y => k (acc ++ [y])) (k acc)) :
    ∀ ds acc, P ds acc → lcLoop st tt el ρ ds acc Q := by
  intro ds
  induction ds with
  | nil => exact h0
  | cons d ds ih => exact fun acc h => h1 d ds acc h _ ih
theorem stT_mono {t : Tg} {d : D} {ρ : En} {p q : En → Prop} (i : ∀ ρ, p ρ → q ρ) (h : stT t d ρ p) : stT t d ρ q := by
  unfold stT at h ⊢
  cases t with
  | nm j => exact i _ h
  | tp is =>
    cases d with
    | tuple ds =>
      dsimp only at h ⊢
      cases e : setAll ρ is ds with
      | none => rw [e] at h; exact h.elim
      | some ρ' => rw [e] at h; exact i _ h
    | _ => exact h.elim
theorem atI_at {ds : List D} {i : Int} (h0 : 0 ≤ i) (h1 : i < ds.length) : atI ds i = ds[i.toNat]? := by
  have e : ixN ds.length i = some i.toNat := by
    unfold ixN
    rw [if_pos h0, if_pos h1]
  unfold atI
  rw [e] <;> rfl
theorem atI_mem {ds : List D} {i : Int} (h0 : 0 ≤ i) (h1 : i < ds.length) : ∃ d, atI ds i = some d ∧ d ∈ ds := by
  rw [atI_at h0 h1]
  have h : i.toNat < ds.length := by omega
  exact ⟨ds[i.toNat], List.getElem?_eq_getElem h, List.getElem_mem h⟩
theorem atI_mem2 {ds : List D} {i : Int} (h0 : -(ds.length : Int) ≤ i) (h1 : i < ds.length) : ∃ d, atI ds i = some d ∧ d ∈ ds := by
  by_cases h : 0 ≤ i
  · exact atI_mem h h1
  · have e : ixN ds.length i = some (i + ds.length).toNat := by
      unfold ixN
      rw [if_neg h, if_pos h0]
    have hl : (i + ds.length).toNat < ds.length := by omega
    refine ⟨ds[(i + ds.length).toNat], ?_, List.getElem_mem hl⟩
    unfold atI
    rw [e]
    exact List.getElem?_eq_getElem hl
theorem atI_maps {α : Type} {f : α → D} {xs : List α} {i : Int} (h0 : -(xs.length : Int) ≤ i) (h1 : i < xs.length) : ∃ x ∈ xs, atI (xs.map f) i = some (f x) := by
  obtain ⟨d, h2, h3⟩ := atI_mem2 (ds := xs.map f) (by simpa using h0) (by simpa using h1)
  obtain ⟨x, h4, h5⟩ := List.mem_map.mp h3
  exact ⟨x, h4, by rw [h2, h5]⟩
theorem cut_gen (ds : List D) (i j : Nat) : cutD ds (some (i : Int)) (some (j : Int)) = (ds.drop i).take (j - i) := by
  unfold cutD
  rw [HT.sIx_nat, HT.sIx_nat]
  by_cases h : i ≤ ds.length
  · rw [Nat.min_eq_left h]
    by_cases h2 : j ≤ ds.length
    · rw [Nat.min_eq_left h2]
    · rw [Nat.min_eq_right (by omega), List.take_of_length_le (by rw [List.length_drop]; omega), List.take_of_length_le (by rw [List.length_drop]; omega)]
  · have e1 : min i ds.length = ds.length := Nat.min_eq_right (by omega)
    rw [e1, List.drop_length, List.drop_of_length_le (by omega)]
    simp
theorem cut_to (ds : List D) (j : Nat) : cutD ds none (some (j : Int)) = ds.take j := by
  have := cut_gen ds 0 j
  unfold cutD at this ⊢
  have e : HT.sIx ds.length 0 (some ((0 : Nat) : Int)) = HT.sIx ds.length 0 none := by rw [HT.sIx_nat]; simp [HT.sIx]
  rw [e] at this
  rw [this]
  simp
theorem cut_init (ds : List D) : cutD ds none (some (-1)) = ds.dropLast := by
  unfold cutD
  rw [HT.sIx_none]
  have e : HT.sIx ds.length ds.length (some (-1)) = ds.length - 1 := by
    unfold HT.sIx
    simp
    omega
  rw [e, List.drop_zero, List.dropLast_eq_take]
  rfl
theorem small_lt {n : Nat} (h : n ≤ 100000) : n < sizeLine := Nat.lt_of_le_of_lt h (by decide)
theorem small_sz {n : Nat} (h : n ≤ 100000) : n ≤ sizeLine := Nat.le_trans h (by decide)
/-! ### data -/
def rD (r : Rat) : D := .tuple [.int r.num, .int r.den]
end DL
namespace DL
open PySem PySem.Spec PyProof.Rows L2
end DL
end
section
namespace DL
def m_common_measure : Ss := (.cons (.set 0 (.bi .abs (.cons (.v 0) .nil))) (.cons (.set 1 (.bi .abs (.cons (.v 1) .nil))) (.cons (.whl (.cmp .Gt (.v 1) (.int 0)) (.cons (.par2 0 1 (.v 1) (.bin .Mod (.v 0) (.v 1))) .nil)) (.cons (.ret (.v 0)) .nil))))
end DL
end
section
namespace DL
def m_lowest : Ss := (.cons (.ifs (.cmp .Eq (.v 1) (.int 0)) (.cons (.rais 1) .nil) .nil) (.cons (.set 2 (.call 0 (.cons (.v 0) (.cons (.v 1) .nil)))) (.cons (.ifs (.cmp .Lt (.v 1) (.int 0)) (.cons (.set 2 (.neg (.v 2))) .nil) .nil) (.cons (.ret (.tup (.cons (.bin .FloorDiv (.v 0) (.v 2)) (.cons (.bin .FloorDiv (.v 1) (.v 2)) .nil)))) .nil))))
end DL
end
section
namespace DL
end DL
end
section
namespace DL
end DL
end
section
namespace DL
end DL
end
section
namespace DL
end DL
end
section
namespace DL
def m_is_before : Ss := (.cons (.ret (.cmp .Lt (.bin .Mult (.ix (.v 0) (.int 0)) (.ix (.v 1) (.int 1))) (.bin .Mult (.ix (.v 1) (.int 0)) (.ix (.v 0) (.int 1))))) .nil)
end DL
end
section
set_option maxRecDepth 100000
set_option maxHeartbeats 4000000
namespace DL
open PySem L2
def sp_common_measure : DSp := fun ds Q X => ∃ a b : Int, ds = [.int a, .int b] ∧ Q (.d (.int (Int.gcd a b)))
theorem abs_if (a : Int) : (if a < 0 then -a else a) = (a.natAbs : Int) := by split <;> omega
theorem gcd_step (x y : Int) (hy : 0 < y) : Int.gcd y (x.fmod y) = Int.gcd x y := by
  rw [Int.fmod_eq_emod_of_nonneg x (by omega)]
  have h := Int.mul_ediv_add_emod x y
  have h2 := Int.gcd_add_mul_left_right y (x % y) (x / y)
  rw [Int.add_comm, h] at h2
  rw [← h2, Int.gcd_comm]
theorem p_common_measure {G : Nat → DSp} : FnW G 2 2 m_common_measure sp_common_measure := by
  intro ds Q X ⟨a, b, e, q⟩
  subst e
  refine ⟨rfl, ?_⟩
  conv => whnf
  refine ⟨fun n ρ => ∃ x y : Int, ρ = [some (.d (.int x)), some (.d (.int y))] ∧ n = y.toNat ∧ 0 ≤ x ∧ 0 ≤ y ∧ Int.gcd x y = Int.gcd a b, ⟨_, _, _, rfl, rfl, by split <;> omega, by split <;> omega, by rw [abs_if, abs_if]; simp [Int.gcd]⟩, ?_⟩
  rintro n ρ ⟨x, y, rfl, rfl, hx, hy, hg⟩
  conv => whnf
  refine ⟨fun h => ?_, fun h => ?_⟩
  · have h : 0 < y := by simpa using h
    conv => whnf
    refine ⟨by omega, fun q hq hq' => ?_⟩
    conv => whnf
    subst hq
    have h1 := Int.fmod_nonneg_of_pos x h
    have h2 := Int.fmod_lt_of_pos x h
    refine ⟨_, by omega, _, _, rfl, rfl, hy, h1, ?_⟩
    rw [gcd_step x y h]
    exact hg
  · have h : y = 0 := by
      have : ¬ 0 < y := by simpa using h
      omega
    subst h
    conv => whnf
    have e : x = (Int.gcd a b : Int) := by rw [← hg]; simp; omega
    rw [e]
    exact q
def LowOk (a b : Int) : Prop := b ≠ 0 → Bd 8999 (Int.gcd a b : Int)
def sp_lowest : DSp := fun ds Q X => ∃ a b : Int, ds = [.int a, .int b] ∧ LowOk a b ∧ (b = 0 → X 1) ∧ (b ≠ 0 → Q (.d (rD (Rat.divInt a b))))
theorem low_num {a b : Int} (hb : b ≠ 0) (s : Int) (hs : s = if b < 0 then -(Int.gcd a b : Int) else (Int.gcd a b : Int)) : a.fdiv s = (Rat.divInt a b).num ∧ b.fdiv s = ((Rat.divInt a b).den : Int) := by
  have hg : 0 < Int.gcd a b := Int.gcd_pos_of_ne_zero_right _ hb
  obtain ⟨u, hu⟩ : (Int.gcd a b : Int) ∣ a := Int.gcd_dvd_left ..
  obtain ⟨v, hv⟩ : (Int.gcd a b : Int) ∣ b := Int.gcd_dvd_right ..
  rw [Rat.num_divInt, Rat.den_divInt, Int.gcd_comm b a, if_neg hb]
  generalize hG : Int.gcd a b = g at *
  have g0 : (g : Int) ≠ 0 := by omega
  have nb : b.natAbs = g * v.natAbs := by rw [hv, Int.natAbs_mul]; simp
  have e4 : (((b.natAbs / g : Nat)) : Int) = (v.natAbs : Int) := by rw [nb, Nat.mul_div_cancel_left _ hg]
  rw [e4]
  subst hs
  split
  · rename_i hneg
    have hv0 : v < 0 := by
      rcases Int.lt_trichotomy v 0 with h | h | h
      · exact h
      · subst h; simp at hv; omega
      · have : 0 < (g : Int) * v := Int.mul_pos (by omega) h
        omega
    have sg : b.sign = -1 := Int.sign_eq_neg_one_of_neg hneg
    rw [sg]
    constructor
    · have : a.fdiv (-(g : Int)) = -u := by
        rw [hu, Int.mul_comm, show u * (g : Int) = (-u) * (-(g : Int)) by grind, Int.mul_fdiv_cancel _ (by omega)]
      rw [this, show -1 * a = (-u) * (g : Int) by grind, Int.mul_ediv_cancel _ g0]
    · have : b.fdiv (-(g : Int)) = -v := by
        rw [hv, Int.mul_comm, show v * (g : Int) = (-v) * (-(g : Int)) by grind, Int.mul_fdiv_cancel _ (by omega)]
      rw [this]
      omega
  · rename_i hneg
    have hv0 : 0 < v := by
      rcases Int.lt_trichotomy v 0 with h | h | h
      · have : (g : Int) * v < 0 := Int.mul_neg_of_pos_of_neg (by omega) h
        omega
      · subst h; simp at hv; omega
      · exact h
    have sg : b.sign = 1 := Int.sign_eq_one_of_pos (by omega)
    rw [sg]
    constructor
    · rw [Int.one_mul]
      rw [hu, Int.mul_comm, Int.mul_fdiv_cancel _ g0, Int.mul_ediv_cancel _ g0]
    · rw [hv, Int.mul_comm, Int.mul_fdiv_cancel _ g0]
      omega
theorem gcd_bd {n : Nat} {a b : Int} (h : Bd n b) (hb : b ≠ 0) : Bd n (Int.gcd a b) := by
  refine h.le ?_
  have := Nat.le_of_dvd (by omega) (Int.gcd_dvd_natAbs_right a b)
  simpa using this
theorem low_ok {a b : Int} (h : Bd 8999 b) : LowOk a b := fun z => gcd_bd h z
theorem p_lowest {G : Nat → DSp} (g0 : G 0 = sp_common_measure) : FnW G 3 2 m_lowest sp_lowest := by
  intro ds Q X ⟨a, b, e, hb, q1, q2⟩
  subst e
  refine ⟨rfl, ?_⟩
  conv => whnf
  refine ⟨fun h => q1 (by simpa using h), fun h => ?_⟩
  have h : b ≠ 0 := by simpa using h
  conv => whnf
  rw [g0]
  refine ⟨_, _, rfl, ?_⟩
  have gb := hb h
  have gp : 0 < Int.gcd a b := Int.gcd_pos_of_ne_zero_right _ h
  conv => whnf
  refine ⟨fun hn => ?_, fun hn => ?_⟩
  · have hn : b < 0 := by simpa using hn
    obtain ⟨e1, e2⟩ := low_num (a := a) h (-(Int.gcd a b : Int)) (by rw [if_pos hn])
    conv => whnf
    refine ⟨by omega, div_ok gb.neg (by decide), fun u hu _ => ?_⟩
    conv => whnf
    refine ⟨by omega, div_ok gb.neg (by decide), fun v hv _ => ?_⟩
    conv => whnf
    refine ⟨by show 2 ≤ sizeLine; decide, ?_⟩
    conv => whnf
    rw [hu, hv, e1, e2]
    exact q2 h
  · have hn : ¬ b < 0 := by simpa using hn
    obtain ⟨e1, e2⟩ := low_num (a := a) h (Int.gcd a b : Int) (by rw [if_neg hn])
    conv => whnf
    refine ⟨by omega, div_ok gb (by decide), fun u hu _ => ?_⟩
    conv => whnf
    refine ⟨by omega, div_ok gb (by decide), fun v hv _ => ?_⟩
    conv => whnf
    refine ⟨by show 2 ≤ sizeLine; decide, ?_⟩
    conv => whnf
    rw [hu, hv, e1, e2]
    exact q2 h
def RB (n : Nat) (r : Rat) : Prop := Bd n r.num ∧ Bd n r.den
theorem RB.mono {m n : Nat} {r : Rat} (h : RB m r) (l : m ≤ n) : RB n r := ⟨h.1.mono l, h.2.mono l⟩
theorem num_le {a b : Int} : (Rat.divInt a b).num.natAbs ≤ a.natAbs := by
  rw [Rat.num_divInt]
  have h1 : (b.sign * a).natAbs ≤ a.natAbs := by
    rw [Int.natAbs_mul]
    have : b.sign.natAbs ≤ 1 := by
      rcases Int.lt_trichotomy b 0 with h | h | h
      · rw [Int.sign_eq_neg_one_of_neg h]; decide
      · subst h; decide
      · rw [Int.sign_eq_one_of_pos h]; decide
    calc b.sign.natAbs * a.natAbs ≤ 1 * a.natAbs := Nat.mul_le_mul_right _ this
      _ = a.natAbs := Nat.one_mul _
  refine Nat.le_trans ?_ h1
  have : (b.sign * a / (b.gcd a : Int)).natAbs = (b.sign * a).natAbs / (b.gcd a) ∨ True := .inr trivial
  have hd : ((b.gcd a : Nat) : Int) ∣ b.sign * a := Int.dvd_trans (Int.gcd_dvd_right ..) (Int.dvd_mul_left ..)
  obtain ⟨u, hu⟩ := hd
  by_cases hz : b.gcd a = 0
  · rw [hz]; simp
  · rw [hu, Int.mul_ediv_cancel_left _ (by omega), Int.natAbs_mul]
    exact Nat.le_mul_of_pos_left _ (by simpa using Nat.pos_of_ne_zero hz)
theorem den_le {a b : Int} (hb : b ≠ 0) : ((Rat.divInt a b).den : Int).natAbs ≤ b.natAbs := by
  rw [Rat.den_divInt, if_neg hb]
  rw [Int.natAbs_natCast]
  exact Nat.div_le_self _ _
theorem RB.divInt {n : Nat} {a b : Int} (h1 : Bd n a) (h2 : Bd n b) (hb : b ≠ 0) : RB n (Rat.divInt a b) := ⟨h1.le num_le, h2.le (den_le hb)⟩
theorem den_ne (r : Rat) : (r.den : Int) ≠ 0 := by have := r.den_pos; omega
theorem rat_add (r s : Rat) : Rat.divInt (r.num * s.den + s.num * r.den) (r.den * s.den) = r + s := by
  rw [← Rat.divInt_add_divInt _ _ (den_ne r) (den_ne s), Rat.num_divInt_den, Rat.num_divInt_den]
theorem rat_sub (r s : Rat) : Rat.divInt (r.num * s.den - s.num * r.den) (r.den * s.den) = r - s := by
  have := rat_add r (-s)
  rw [Rat.neg_num, Rat.neg_den, ← Rat.sub_eq_add_neg] at this
  rw [← this]
  congr 1
  grind
theorem rat_mul (r s : Rat) : Rat.divInt (r.num * s.num) (r.den * s.den) = r * s := by
  rw [← Rat.divInt_mul_divInt, Rat.num_divInt_den, Rat.num_divInt_den]
theorem RB.add {m n : Nat} {r s : Rat} (h : RB m r) (g : RB n s) : RB (m + n + 1) (r + s) := by
  rw [← rat_add]
  refine RB.divInt (((h.1.mul g.2).add (g.1.mul h.2)).mono (by omega)) ((h.2.mul g.2).mono (by omega)) (Int.mul_ne_zero (den_ne r) (den_ne s))
theorem RB.sub {m n : Nat} {r s : Rat} (h : RB m r) (g : RB n s) : RB (m + n + 1) (r - s) := by
  rw [← rat_sub]
  refine RB.divInt (((h.1.mul g.2).sub (g.1.mul h.2)).mono (by omega)) ((h.2.mul g.2).mono (by omega)) (Int.mul_ne_zero (den_ne r) (den_ne s))
theorem RB.mul {m n : Nat} {r s : Rat} (h : RB m r) (g : RB n s) : RB (m + n) (r * s) := by
  rw [← rat_mul]
  exact RB.divInt (h.1.mul g.1) (h.2.mul g.2) (Int.mul_ne_zero (den_ne r) (den_ne s))
theorem eqv_tup {xs ys : List D} : PyData.eqv (.tuple xs) (.tuple ys) = PyData.eqvAll xs ys := by unfold PyData.eqv; rfl
theorem eqv_nil : PyData.eqvAll [] [] = true := by unfold PyData.eqvAll; rfl
theorem eqv_cons {x y : D} {xs ys : List D} : PyData.eqvAll (x :: xs) (y :: ys) = (PyData.eqv x y && PyData.eqvAll xs ys) := by rw [PyData.eqvAll]
theorem eqv_rD (r s : Rat) : PyData.eqv (rD r) (rD s) = decide (r = s) := by
  unfold rD
  rw [eqv_tup, eqv_cons, eqv_cons, eqv_nil, eqv_i, eqv_i, Bool.and_true, Bool.eq_iff_iff]
  simp only [Bool.and_eq_true, decide_eq_true_iff]
  constructor
  · rintro ⟨h1, h2⟩
    exact Rat.ext h1 (by omega)
  · rintro rfl
    exact ⟨rfl, rfl⟩
theorem flat_t {xs ys : List D} (h : PyData.depthAll xs ≤ 99) : Flat (.tuple xs) (.tuple ys) := by
  unfold Flat
  refine Nat.le_trans (Nat.min_le_left _ _) ?_
  rw [PyData.depth]
  omega
theorem flat_r (r s : Rat) : Flat (rD r) (rD s) := flat_t (by simp [PyData.depthAll, PyData.depth])
theorem eq_rD {r s : Rat} {Q : R → Prop} (h : Q (.d (.bool (decide (r = s))))) : wEq0 (rD r) (rD s) Q := ⟨flat_r r s, by rw [eqv_rD]; exact h⟩
theorem ne_rD {r s : Rat} {Q : R → Prop} (h : Q (.d (.bool (!decide (r = s))))) : wNe0 (rD r) (rD s) Q := ⟨flat_r r s, by rw [eqv_rD]; exact h⟩
theorem eqv_ts (xs : List D) (z : Str) : PyData.eqv (.tuple xs) (.str z) = false := by unfold PyData.eqv; rfl
theorem flat_s (x : D) (z : Str) : Flat x (.str z) := by
  unfold Flat
  refine Nat.le_trans (Nat.min_le_right _ _) ?_
  simp [PyData.depth]
theorem eq_ts {xs : List D} {z : Str} {Q : R → Prop} (h : Q (.d (.bool false))) : wEq0 (.tuple xs) (.str z) Q := ⟨flat_s _ _, by rw [eqv_ts]; exact h⟩
theorem ne_ts {xs : List D} {z : Str} {Q : R → Prop} (h : Q (.d (.bool true))) : wNe0 (.tuple xs) (.str z) Q := ⟨flat_s _ _, by rw [eqv_ts]; exact h⟩
theorem eqv_vD (u v : Vec) : PyData.eqv (vD u) (vD v) = decide (u = v) := by
  unfold vD
  rw [eqv_tup, eqv_cons, eqv_cons, eqv_nil, eqv_i, eqv_i, Bool.and_true, Bool.eq_iff_iff]
  simp only [Bool.and_eq_true, decide_eq_true_iff]
  constructor
  · rintro ⟨h1, h2⟩
    exact Prod.ext h1 h2
  · rintro rfl
    exact ⟨rfl, rfl⟩
theorem flat_v (u v : Vec) : Flat (vD u) (vD v) := flat_t (by simp [PyData.depthAll, PyData.depth])
theorem eq_vD {a b c d : Int} {Q : R → Prop} (h : Q (.d (.bool (decide ((a, b) = (c, d)))))) : wEq0 (.tuple [.int a, .int b]) (.tuple [.int c, .int d]) Q := ⟨flat_v (a, b) (c, d), by have := eqv_vD (a, b) (c, d); unfold vD at this; rw [this]; exact h⟩
theorem ne_vD {a b c d : Int} {Q : R → Prop} (h : Q (.d (.bool (!decide ((a, b) = (c, d)))))) : wNe0 (.tuple [.int a, .int b]) (.tuple [.int c, .int d]) Q := ⟨flat_v (a, b) (c, d), by have := eqv_vD (a, b) (c, d); unfold vD at this; rw [this]; exact h⟩
def sp_is_before : DSp := fun ds Q X => ∃ (r s : Rat) (m n : Nat), ds = [rD r, rD s] ∧ RB m r ∧ RB n s ∧ m + n ≤ 999990 ∧ Q (.d (.bool (decide (r < s))))
theorem p_is_before {G : Nat → DSp} : FnW G 2 2 m_is_before sp_is_before := by
  intro ds Q X ⟨r, s, m, n, e, hr, hs, l, q⟩
  subst e
  refine ⟨rfl, ?_⟩
  conv => whnf
  refine ⟨mul_ok hr.1 hs.2 (by omega), ?_⟩
  conv => whnf
  refine ⟨mul_ok hs.1 hr.2 (by omega), ?_⟩
  conv => whnf
  have e : decide (r.num * (s.den : Int) < s.num * (r.den : Int)) = decide (r < s) := by
    rw [Bool.eq_iff_iff, decide_eq_true_iff, decide_eq_true_iff, Rat.lt_iff]
  rw [← e] at q
  exact q
end DL
end
section
namespace DL
def m_turn_of : Ss := (.cons (.ret (.bin .Sub (.bin .Mult (.ix (.v 0) (.int 0)) (.ix (.v 1) (.int 1))) (.bin .Mult (.ix (.v 0) (.int 1)) (.ix (.v 1) (.int 0))))) .nil)
end DL
end
section
namespace DL
end DL
end
section
namespace DL
end DL
end
section
set_option maxHeartbeats 4000000
namespace DL
def crs (u v : Vec) : Int := u.1 * v.2 - u.2 * v.1
def sb (a b : Vec) : Vec := (b.1 - a.1, b.2 - a.2)
def dot (u v : Vec) : Int := u.1 * v.1 + u.2 * v.2
def tn (a b c : Vec) : Int := crs (sb a b) (sb b c)
def lp (u : Vec) : Prop := 0 < u.1 ∨ (u.1 = 0 ∧ 0 < u.2)
theorem lp_sb {a b : Vec} : lp (sb a b) ↔ vLt a b := by unfold lp sb vLt; dsimp only; omega
theorem vLt_irr {a : Vec} : ¬ vLt a a := by unfold vLt; omega
theorem vLt_tr {a b c : Vec} (h : vLt a b) (g : vLt b c) : vLt a c := by unfold vLt at *; omega
theorem vLt_as {a b : Vec} (h : vLt a b) (g : vLt b a) : False := vLt_irr (vLt_tr h g)
theorem vLt_tot (a b : Vec) : a = b ∨ vLt a b ∨ vLt b a := by
  obtain ⟨a1, a2⟩ := a
  obtain ⟨b1, b2⟩ := b
  unfold vLt
  dsimp only
  rw [Prod.mk.injEq]
  omega
theorem crs_self (u : Vec) : crs u u = 0 := by unfold crs; grind
theorem crs_swap (u v : Vec) : crs u v = -crs v u := by unfold crs; grind
theorem sb_self (a : Vec) : sb a a = (0, 0) := by unfold sb; simp
theorem crs_zero (u : Vec) : crs u (0, 0) = 0 := by unfold crs; simp
theorem crs_shift (a b c : Vec) : crs (sb a b) (sb a c) = crs (sb a b) (sb b c) := by unfold crs sb; grind
theorem crs_rev (u a b : Vec) : crs u (sb a b) = -crs u (sb b a) := by unfold crs sb; grind
theorem crs_sb (a q p : Vec) : crs (sb a q) p = crs q p - crs a p := by unfold crs sb; grind
theorem crs_id (u v w : Vec) : v.1 * crs u w = u.1 * crs v w + w.1 * crs u v := by unfold crs; grind
theorem lp_nn {u : Vec} (h : lp u) : 0 ≤ u.1 := by unfold lp at h; omega
theorem lp_tr {u v w : Vec} (hu : lp u) (hv : lp v) (hw : lp w) (h1 : 0 ≤ crs u v) (h2 : 0 ≤ crs v w) : 0 ≤ crs u w := by
  have i := crs_id u v w
  rcases hv with h | ⟨h, h'⟩
  · have a := Int.mul_nonneg (lp_nn hu) h2
    have b := Int.mul_nonneg (lp_nn hw) h1
    refine Int.not_lt.mp fun z => ?_
    have := Int.mul_neg_of_pos_of_neg h z
    omega
  · have e : crs v w = -(v.2 * w.1) := by unfold crs; rw [h]; grind
    have : w.1 = 0 := by
      rcases Int.lt_or_le 0 w.1 with z | z
      · have := Int.mul_pos h' z
        omega
      · have := lp_nn hw
        omega
    rcases hw with g | ⟨g, g'⟩
    · omega
    · have e2 : crs u w = u.1 * w.2 := by unfold crs; rw [g]; grind
      rw [e2]
      exact Int.mul_nonneg (lp_nn hu) (by omega)
theorem lp_tr2 {u v w : Vec} (hu : lp u) (hv : lp v) (hw : lp w) (h1 : 0 ≤ crs u v) (h2 : 0 < crs v w) : 0 < crs u w := by
  refine Int.lt_iff_le_and_ne.mpr ⟨lp_tr hu hv hw h1 (Int.le_of_lt h2), fun z => ?_⟩
  have i := crs_id u v w
  rw [← z, Int.mul_zero] at i
  have a := Int.mul_nonneg (lp_nn hw) h1
  rcases hu with g | ⟨g, g'⟩
  · have := Int.mul_pos g h2
    omega
  · have e : crs u w = -(u.2 * w.1) := by unfold crs; rw [g]; grind
    have e1 : crs u v = -(u.2 * v.1) := by unfold crs; rw [g]; grind
    have hv0 : v.1 = 0 := by
      rcases Int.lt_or_le 0 v.1 with q | q
      · have := Int.mul_pos g' q
        omega
      · have := lp_nn hv
        omega
    have e3 : crs v w = -(v.2 * w.1) := by unfold crs; rw [hv0]; grind
    have := Int.mul_nonneg (show 0 ≤ v.2 by unfold lp at hv; omega) (lp_nn hw)
    omega
def popF (v : Vec) : List Vec → List Vec
  | b :: a :: r => if tn a b v ≤ 0 then popF v (a :: r) else b :: a :: r
  | s => s
def stk (S : List Vec) (row : List Vec) : List Vec := row.foldl (fun S v => v :: popF v S) S
def halfF (row : List Vec) : List Vec := (stk [] row).reverse
def Bk (P : Vec → Prop) : List Vec → Prop
  | [] => False
  | [a] => P a ∧ ∀ p, P p → p = a ∨ vLt a p
  | b :: a :: r => P b ∧ vLt a b ∧ (∀ p, P p → 0 ≤ crs (sb a b) (sb a p)) ∧ (∀ c r', r = c :: r' → 0 < tn c a b) ∧ Bk P (a :: r)
theorem bk_add {P : Vec → Prop} {v : Vec} : ∀ (r : List Vec) (a : Vec), Bk P (a :: r) → vLt a v → (∀ c r', r = c :: r' → 0 < tn c a v) → Bk (fun p => P p ∨ p = v) (a :: r)
  | [], a, h, hv, _ => ⟨.inl h.1, fun p hp => hp.elim (h.2 p) fun e => .inr (by rw [e]; exact hv)⟩
  | c :: r, a, h, hv, ht => by
    obtain ⟨h1, h2, h3, h4, h5⟩ := h
    have t := ht c r rfl
    have left : crs (sb c a) (sb c v) = tn c a v := crs_shift c a v
    refine ⟨.inl h1, h2, fun p hp => hp.elim (h3 p) fun e => by rw [e, left]; omega, h4, bk_add r c h5 (vLt_tr h2 hv) fun d r' e => ?_⟩
    have t2 := h4 d r' e
    subst e
    have h6 : vLt d c := h5.2.1
    exact lp_tr2 (lp_sb.mpr h6) (lp_sb.mpr h2) (lp_sb.mpr (vLt_tr h2 hv)) (Int.le_of_lt t2) (by rw [left]; exact t)
theorem pop_ok {P : Vec → Prop} {v : Vec} (hv : ∀ p, P p → vLt p v) : ∀ (r : List Vec) (a : Vec), Bk P (a :: r) → (∀ p, P p → vLt a p → 0 ≤ crs (sb a v) (sb a p)) →
    ∃ a' r', popF v (a :: r) = a' :: r' ∧ Bk P (a' :: r') ∧ (∀ p, P p → vLt a' p → 0 ≤ crs (sb a' v) (sb a' p)) ∧ ∀ c r'', r' = c :: r'' → 0 < tn c a' v
  | [], a, h, s => ⟨a, [], rfl, h, s, fun _ _ e => nomatch e⟩
  | c :: r, a, h, s => by
    unfold popF
    by_cases t : tn c a v ≤ 0
    · rw [if_pos t]
      obtain ⟨h1, h2, h3, h4, h5⟩ := h
      refine pop_ok hv r c h5 fun p hp hcp => ?_
      have ac : vLt c v := vLt_tr h2 (hv a h1)
      refine lp_tr (lp_sb.mpr ac) (lp_sb.mpr h2) (lp_sb.mpr hcp) ?_ (h3 p hp)
      rw [crs_swap, crs_shift]
      have : tn c a v = crs (sb c a) (sb a v) := rfl
      omega
    · rw [if_neg t]
      exact ⟨a, c :: r, rfl, h, s, fun d r'' e => by cases e; omega⟩
theorem push_ok {P : Vec → Prop} {v a : Vec} {r : List Vec} (hv : ∀ p, P p → vLt p v) (h : Bk P (a :: r)) (s : ∀ p, P p → vLt a p → 0 ≤ crs (sb a v) (sb a p)) (t : ∀ c r', r = c :: r' → 0 < tn c a v) :
    Bk (fun p => P p ∨ p = v) (v :: a :: r) := by
  have pa : P a := by
    cases r with
    | nil => exact h.1
    | cons c r => exact h.1
  have av := hv a pa
  refine ⟨.inr rfl, av, fun p hp => ?_, t, bk_add r a h av t⟩
  rcases hp with hp | rfl
  · rcases vLt_tot a p with e | e | e
    · rw [← e, sb_self, crs_zero]
      exact Int.le_refl 0
    · exact s p hp e
    · cases r with
      | nil =>
        rcases h.2 p hp with z | z
        · rw [z] at e; exact (vLt_irr e).elim
        · exact (vLt_as e z).elim
      | cons c r =>
        obtain ⟨h1, h2, h3, h4, h5⟩ := h
        have t1 := t c r rfl
        have l := h3 p hp
        rw [crs_shift, crs_rev, ← crs_swap] at l
        have := lp_tr2 (lp_sb.mpr e) (lp_sb.mpr h2) (lp_sb.mpr av) l t1
        rw [crs_swap, ← crs_rev] at this
        omega
  · rw [crs_self]
    exact Int.le_refl 0
theorem stk_ok : ∀ (row pre S : List Vec), (pre ++ row).Pairwise vLt → ((pre = [] ∧ S = []) ∨ ∃ a r, S = a :: r ∧ Bk (· ∈ pre) S ∧ ∀ p ∈ pre, p = a ∨ vLt p a) → (pre ++ row) ≠ [] →
    ∃ a r, stk S row = a :: r ∧ Bk (· ∈ pre ++ row) (a :: r) ∧ ∀ p ∈ pre ++ row, p = a ∨ vLt p a
  | [], pre, S, _, h, ne => by
    rw [List.append_nil] at ne ⊢
    rcases h with ⟨h, _⟩ | ⟨a, r, e, h1, h2⟩
    · exact absurd h ne
    · exact ⟨a, r, e, by rw [← e]; exact h1, h2⟩
  | v :: row, pre, S, hp, h, _ => by
    have hp' : ((pre ++ [v]) ++ row).Pairwise vLt := by rw [List.append_assoc]; exact hp
    have hv : ∀ p ∈ pre, vLt p v := fun p hp1 => (List.pairwise_append.mp hp).2.2 p hp1 v List.mem_cons_self
    have ea : pre ++ v :: row = (pre ++ [v]) ++ row := by rw [List.append_assoc]; rfl
    rw [ea]
    show ∃ a r, stk (v :: popF v S) row = a :: r ∧ _
    refine stk_ok row (pre ++ [v]) (v :: popF v S) hp' (.inr ?_) (by simp)
    have eP : (fun p => p ∈ pre ++ [v]) = fun p => p ∈ pre ∨ p = v := by funext p; simp
    refine ⟨v, _, rfl, ?_, fun p hp => ?_⟩
    · rw [eP]
      rcases h with ⟨h, e⟩ | ⟨a, r, e, h1, h2⟩
      · subst h e
        exact ⟨.inr rfl, fun p hp => .inl (by simpa using hp)⟩
      · subst e
        obtain ⟨a', r', e, b1, b2, b3⟩ := pop_ok hv r a h1 fun p hp hap => by
          rcases h2 p hp with z | z
          · rw [z] at hap; exact (vLt_irr hap).elim
          · exact (vLt_as z hap).elim
        rw [e]
        exact push_ok hv b1 b2 b3
    · rcases List.mem_append.mp hp with z | z
      · exact .inr (hv p z)
      · exact .inl (List.mem_singleton.mp z)
def Lo (P : Vec → Prop) : Vec → List Vec → Prop
  | a, [] => ∀ p, P p → p = a ∨ vLt p a
  | a, b :: r => P b ∧ vLt a b ∧ (∀ p, P p → 0 ≤ crs (sb a b) (sb a p)) ∧ (∀ c r', r = c :: r' → 0 < tn a b c) ∧ Lo P b r
structure LoH (P : Vec → Prop) (a : Vec) (r : List Vec) : Prop where
  at_ : P a
  min : ∀ p, P p → p = a ∨ vLt a p
  lo : Lo P a r
theorem forth {P : Vec → Prop} : ∀ (S : List Vec) (b : Vec) (r : List Vec), Bk P (b :: S) → Lo P b r → (∀ c S', S = c :: S' → ∀ d r', r = d :: r' → 0 < tn c b d) → ∃ a r', (b :: S).reverse ++ r = a :: r' ∧ LoH P a r'
  | [], b, r, h, l, _ => ⟨b, r, rfl, ⟨h.1, h.2, l⟩⟩
  | c :: S, b, r, h, l, t => by
    obtain ⟨h1, h2, h3, h4, h5⟩ := h
    obtain ⟨a, r', e, q⟩ := forth S c (b :: r) h5 ⟨h1, h2, h3, t c S rfl, l⟩ fun d S' e d' r' e' => by
      cases e'
      exact h4 d S' e
    exact ⟨a, r', by rw [← e]; simp, q⟩
theorem half_ok {row : List Vec} (h : row.Pairwise vLt) (ne : row ≠ []) : ∃ a r, halfF row = a :: r ∧ LoH (· ∈ row) a r := by
  obtain ⟨b, S, e, h1, h2⟩ := stk_ok row [] [] (by simpa using h) (.inl ⟨rfl, rfl⟩) (by simpa using ne)
  rw [List.nil_append] at h1 h2
  obtain ⟨a, r, e2, q⟩ := forth S b [] h1 h2 fun _ _ _ _ _ e => nomatch e
  exact ⟨a, r, by unfold halfF; rw [e, ← e2, List.append_nil], q⟩
theorem lo_max {P : Vec → Prop} {p : Vec} (hp : lp p) : ∀ (r : List Vec) (a : Vec), P a → Lo P a r → (∀ q, P q → vLt q a → crs q p ≤ crs a p) → ∃ v ∈ a :: r, P v ∧ ∀ q, P q → crs q p ≤ crs v p
  | [], a, pa, h, bef => ⟨a, List.mem_cons_self, pa, fun q hq => by
    rcases h q hq with e | e
    · rw [e]; exact Int.le_refl _
    · exact bef q hq e⟩
  | b :: r, a, pa, h, bef => by
    obtain ⟨h1, h2, h3, h4, h5⟩ := h
    rcases Int.lt_or_le 0 (crs (sb a b) p) with z | z
    · obtain ⟨v, m, pv, q⟩ := lo_max hp r b h1 h5 fun q hq hqb => by
        have l := h3 q hq
        rw [crs_shift, crs_rev, ← crs_swap] at l
        have := lp_tr2 (lp_sb.mpr hqb) (lp_sb.mpr h2) hp l z
        rw [crs_sb] at this
        omega
      exact ⟨v, List.mem_cons_of_mem _ m, pv, q⟩
    · refine ⟨a, List.mem_cons_self, pa, fun q hq => ?_⟩
      rcases vLt_tot a q with e | e | e
      · rw [← e]; exact Int.le_refl _
      · have := lp_tr hp (lp_sb.mpr h2) (lp_sb.mpr e) (by rw [crs_swap]; omega) (h3 q hq)
        rw [crs_swap, crs_sb] at this
        omega
      · exact bef q hq e
theorem LoH.max {P : Vec → Prop} {a p : Vec} {r : List Vec} (h : LoH P a r) (hp : lp p) : ∃ v ∈ a :: r, P v ∧ ∀ q, P q → crs q p ≤ crs v p :=
  lo_max hp r a h.at_ h.lo fun q hq z => by
    rcases h.min q hq with e | e
    · rw [e] at z; exact (vLt_irr z).elim
    · exact (vLt_as z e).elim
end DL
end
section
set_option maxRecDepth 100000
set_option maxHeartbeats 4000000
set_option exponentiation.threshold 100000
namespace DL
open PySem L2
local macro_rules | `(tactic| l_ints) => `(tactic| first | (assumption) | (apply Bd.neg; l_ints) | (apply Bd.mul <;> l_ints) | (exact bd40 (by omega) (by omega)) | (apply Bd.add <;> l_ints) | (apply Bd.sub <;> l_ints) | (exact bd130 (by omega) (by omega)) | (exact bd210 (by omega) (by omega)) | (exact bd_self _) | fail)
def VB (k : Nat) (v : Vec) : Prop := Bd k v.1 ∧ Bd k v.2
theorem VB.mono {m k : Nat} {v : Vec} (h : VB m v) (l : m ≤ k) : VB k v := ⟨h.1.mono l, h.2.mono l⟩
def sp_turn_of : DSp := fun ds Q X => ∃ (u v : Vec) (k m : Nat), ds = [vD u, vD v] ∧ VB k u ∧ VB m v ∧ k + m ≤ 999990 ∧ Q (.d (.int (crs u v)))
theorem p_turn_of {G : Nat → DSp} : FnW G 2 2 m_turn_of sp_turn_of := by
  intro ds Q X ⟨u, v, k, m, e, hu, hv, l, q⟩
  subst e
  refine ⟨rfl, ?_⟩
  conv => whnf
  refine ⟨mul_ok hu.1 hv.2 (by omega), ?_⟩
  conv => whnf
  refine ⟨mul_ok hu.2 hv.1 (by omega), ?_⟩
  ((conv => whnf); repeat' (first | (refine wIf_tt ?_; conv => whnf) | (refine wIf_ff ?_; conv => whnf) | (refine wIf.mk (fun hif => (have hif := of_decide_eq_true hif; ?_)) (fun hif => (have hif := of_decide_eq_false hif; ?_)) <;> (conv => whnf)) | (refine wIf_not ?_) | (refine ⟨(by decide : (_ : Int) ≠ 0), fun w _ hw => ?_⟩; replace hw := hw (by decide); conv => whnf) | (refine ⟨(by decide : (_ : Int) ≠ 0), div_lit (by decide), fun w _ hw => ?_⟩; replace hw := hw (by decide); conv => whnf) | (refine eq_rD ?_; conv => whnf) | (refine eq_ts ?_; conv => whnf) | (refine ne_ts ?_; conv => whnf) | (refine ne_rD ?_; conv => whnf) | (refine eq_vD ?_; conv => whnf) | (refine ne_vD ?_; conv => whnf) | (refine ⟨isi_ok rfl, ?_⟩; conv => whnf) | (apply wMulS.mk; (first | exact mul_l (by decide) (by decide) | exact mul_r (by decide) (by decide) | exact mul_ok (by l_ints) (by l_ints) (by decide)); conv => whnf) | (refine ⟨⟨by decide, by decide, by decide⟩, ?_⟩; conv => whnf) | (refine ⟨⟨by decide, by decide, by omega⟩, ?_⟩; conv => whnf) | (refine ⟨small_sz (Nat.le_of_ble_eq_true rfl), ?_⟩; conv => whnf) | fail))
  exact q
structure IsFar (vs : List Vec) (b : Vec) (m : Int) : Prop where
  mem : ∃ v ∈ vs, dot v b = m
  le : ∀ v ∈ vs, dot v b ≤ m
end DL
end
section
set_option maxHeartbeats 4000000
namespace DL
def ng (v : Vec) : Vec := (-v.1, -v.2)
theorem ng_ng (v : Vec) : ng (ng v) = v := by unfold ng; simp
def nP (P : Vec → Prop) : Vec → Prop := fun p => P (ng p)
theorem nP_nP (P : Vec → Prop) : nP (nP P) = P := by funext p; unfold nP; rw [ng_ng]
theorem ng_lt {a b : Vec} : vLt (ng a) (ng b) ↔ vLt b a := by unfold vLt ng; dsimp only; omega
theorem ng_inj {a b : Vec} (h : ng a = ng b) : a = b := by rw [← ng_ng a, h, ng_ng]
theorem crs_ng (u v : Vec) : crs (ng u) (ng v) = crs u v := by unfold crs ng; grind
theorem crs_ng1 (u v : Vec) : crs (ng u) v = -crs u v := by unfold crs ng; grind
theorem crs_ng2 (u v : Vec) : crs u (ng v) = -crs u v := by unfold crs ng; grind
theorem tn_ng (a b c : Vec) : tn (ng a) (ng b) (ng c) = tn a b c := by unfold tn crs sb ng; grind
def Sup (P Q : Vec → Prop) : Prop := ∀ q, Q q → ∀ p : Vec, ∃ x, P x ∧ crs q p ≤ crs x p
theorem dot_crs (d q : Vec) : dot d q = crs q (-d.2, d.1) := by unfold dot crs; grind
theorem Sup.ng {P Q : Vec → Prop} (h : Sup P Q) : Sup (nP P) (nP Q) := fun q hq p => by
  obtain ⟨x, h1, h2⟩ := h (DL.ng q) hq (DL.ng p)
  refine ⟨DL.ng x, by show P (DL.ng (DL.ng x)); rw [ng_ng]; exact h1, ?_⟩
  rw [crs_ng] at h2
  rw [crs_ng1, ← crs_ng2]
  exact h2
theorem Sup.of {P Q : Vec → Prop} (h : ∀ q, Q q → ∀ d : Vec, ∃ x, P x ∧ dot d q ≤ dot d x) : Sup P Q := fun q hq p => by
  obtain ⟨x, h1, h2⟩ := h q hq (p.2, -p.1)
  rw [dot_crs, dot_crs] at h2
  refine ⟨x, h1, ?_⟩
  have e : (-(p.2, -p.1).2, (p.2, -p.1).1) = p := by simp
  rw [e] at h2
  exact h2
theorem Sup.sub {P Q : Vec → Prop} (h : ∀ q, Q q → P q) : Sup P Q := fun q hq p => ⟨q, h q hq, Int.le_refl _⟩
section
variable {P Q : Vec → Prop}
end
instance (a b : Vec) : Decidable (vLt a b) := inferInstanceAs (Decidable (_ ∨ _))
def insV (v : Vec) : List Vec → List Vec
  | [] => [v]
  | w :: ws => if v = w then w :: ws else if vLt v w then v :: w :: ws else w :: insV v ws
def srtV (vs : List Vec) : List Vec := vs.foldr insV []
theorem mem_insV {v x : Vec} : ∀ {ws : List Vec}, x ∈ insV v ws ↔ x = v ∨ x ∈ ws
  | [] => by unfold insV; simp
  | w :: ws => by
    unfold insV
    split
    · rename_i e; subst e; simp
    · split
      · simp
      · rw [List.mem_cons, mem_insV, List.mem_cons]
        constructor
        · rintro (h | h | h)
          · exact .inr (.inl h)
          · exact .inl h
          · exact .inr (.inr h)
        · rintro (h | h | h)
          · exact .inr (.inl h)
          · exact .inl h
          · exact .inr (.inr h)
theorem pw_insV {v : Vec} : ∀ {ws : List Vec}, ws.Pairwise vLt → (insV v ws).Pairwise vLt
  | [], _ => List.pairwise_singleton _ _
  | w :: ws, h => by
    obtain ⟨h1, h2⟩ := List.pairwise_cons.mp h
    unfold insV
    split
    · exact h
    · split
      · rename_i l
        exact List.pairwise_cons.mpr ⟨fun x hx => by
          rcases List.mem_cons.mp hx with e | hx
          · rw [e]; exact l
          · exact vLt_tr l (h1 x hx), h⟩
      · rename_i ne l
        refine List.pairwise_cons.mpr ⟨fun x hx => ?_, pw_insV h2⟩
        rcases mem_insV.mp hx with e | hx
        · rw [e]
          rcases vLt_tot v w with z | z | z
          · exact absurd z ne
          · exact absurd z l
          · exact z
        · exact h1 x hx
theorem mem_srtV {x : Vec} : ∀ {vs : List Vec}, x ∈ srtV vs ↔ x ∈ vs
  | [] => Iff.rfl
  | v :: vs => by
    show x ∈ insV v (srtV vs) ↔ _
    rw [mem_insV, mem_srtV, List.mem_cons]
theorem pw_srtV : ∀ (vs : List Vec), (srtV vs).Pairwise vLt
  | [] => List.Pairwise.nil
  | v :: vs => pw_insV (pw_srtV vs)
theorem srt_uniq : ∀ {l m : List Vec}, l.Pairwise vLt → m.Pairwise vLt → (∀ x, x ∈ l ↔ x ∈ m) → l = m
  | [], [], _, _, _ => rfl
  | [], y :: m, _, _, h => absurd ((h y).mpr List.mem_cons_self) (by simp)
  | x :: l, [], _, _, h => absurd ((h x).mp List.mem_cons_self) (by simp)
  | x :: l, y :: m, hl, hm, h => by
    obtain ⟨l1, l2⟩ := List.pairwise_cons.mp hl
    obtain ⟨m1, m2⟩ := List.pairwise_cons.mp hm
    have e : x = y := by
      rcases List.mem_cons.mp ((h x).mp List.mem_cons_self) with e | e
      · exact e
      · rcases List.mem_cons.mp ((h y).mpr List.mem_cons_self) with e' | e'
        · exact e'.symm
        · exact (vLt_as (l1 y e') (m1 x e)).elim
    subst e
    rw [srt_uniq l2 m2 fun z => ?_]
    have hz := h z
    rw [List.mem_cons, List.mem_cons] at hz
    constructor
    · intro a
      rcases hz.mp (.inr a) with e | e
      · rw [e] at a; exact (vLt_irr (l1 x a)).elim
      · exact e
    · intro a
      rcases hz.mpr (.inr a) with e | e
      · rw [e] at a; exact (vLt_irr (m1 x a)).elim
      · exact e
theorem srtV_eq {vs ws : List Vec} (h : ws.Pairwise vLt) (m : ∀ v, v ∈ ws ↔ v ∈ vs) : ws = srtV vs := srt_uniq h (pw_srtV vs) fun x => (m x).trans mem_srtV.symm
theorem pop_ng (v : Vec) : ∀ S : List Vec, popF (ng v) (S.map ng) = (popF v S).map ng
  | [] => rfl
  | [_] => rfl
  | b :: a :: r => by
    show popF (ng v) (ng b :: ng a :: r.map ng) = _
    unfold popF
    rw [tn_ng]
    split
    · exact pop_ng v (a :: r)
    · rfl
theorem half_ng (row : List Vec) : halfF (row.map ng) = (halfF row).map ng := by
  have key : ∀ (row S : List Vec), stk (S.map ng) (row.map ng) = (stk S row).map ng := by
    intro row
    induction row with
    | nil => intro S; rfl
    | cons v row ih =>
      intro S
      show stk (ng v :: popF (ng v) (S.map ng)) (row.map ng) = _
      rw [pop_ng]
      exact ih (v :: popF v S)
  unfold halfF
  rw [show stk [] (row.map ng) = (stk [] row).map ng from key row [], List.map_reverse]
def hullW (ws : List Vec) : List Vec := if ws.length = 1 then ws else (halfF ws).dropLast ++ (halfF ws.reverse).dropLast
def hull (vs : List Vec) : List Vec := hullW (srtV vs)
structure HullOf (vs : List Vec) (a : Vec) (r : List Vec) (an : Vec) (rn : List Vec) : Prop where
  lo : LoH (· ∈ vs) a r
  up : LoH (nP (· ∈ vs)) an rn
  is : hull vs = if r = [] then [a] else (a :: r).dropLast ++ ((an :: rn).map ng).dropLast
theorem hull_of {vs : List Vec} (ne : vs ≠ []) : ∃ a r an rn, HullOf vs a r an rn := by
  have ne1 : srtV vs ≠ [] := fun e => by
    cases vs with
    | nil => exact ne rfl
    | cons v vs =>
      have : v ∈ srtV (v :: vs) := mem_srtV.mpr List.mem_cons_self
      rw [e] at this
      cases this
  have pw := pw_srtV vs
  obtain ⟨a, r, e, h⟩ := half_ok pw ne1
  have pw2 : ((srtV vs).reverse.map ng).Pairwise vLt := by
    rw [List.pairwise_map, List.pairwise_reverse]
    exact pw.imp fun h => ng_lt.mpr h
  obtain ⟨an, rn, e2, n⟩ := half_ok pw2 (by simpa using ne1)
  have eP : (fun x => x ∈ srtV vs) = fun x => x ∈ vs := by funext x; exact propext mem_srtV
  have eN : (fun x => x ∈ (srtV vs).reverse.map ng) = nP fun x => x ∈ vs := by
    funext x
    unfold nP
    refine propext ⟨fun h => ?_, fun h => ?_⟩
    · obtain ⟨y, hy, rfl⟩ := List.mem_map.mp h
      rw [ng_ng]
      exact mem_srtV.mp (List.mem_reverse.mp hy)
    · exact List.mem_map.mpr ⟨ng x, List.mem_reverse.mpr (mem_srtV.mpr h), ng_ng x⟩
  rw [eP] at h
  rw [eN] at n
  have up : halfF (srtV vs).reverse = (an :: rn).map ng := by
    have := half_ng ((srtV vs).reverse.map ng)
    rw [e2, List.map_map, show ng ∘ ng = id from funext ng_ng, List.map_id] at this
    exact this
  refine ⟨a, r, an, rn, h, n, ?_⟩
  unfold hull hullW
  by_cases hr : r = []
  · rw [if_pos hr]
    subst hr
    have all : ∀ x ∈ srtV vs, x = a := fun x hx => by
      have hx := mem_srtV.mp hx
      rcases h.min x hx with z | z
      · exact z
      · rcases h.lo x hx with y | y
        · exact y
        · exact (vLt_as z y).elim
    have : srtV vs = [a] := by
      cases q : srtV vs with
      | nil => exact absurd q ne1
      | cons x xs =>
        rw [q] at all pw
        have ex := all x List.mem_cons_self
        cases xs with
        | nil => rw [ex]
        | cons y ys =>
          have ey := all y (by simp)
          have := (List.pairwise_cons.mp pw).1 y List.mem_cons_self
          rw [ex, ey] at this
          exact (vLt_irr this).elim
    rw [this]
    rfl
  · rw [if_neg hr, if_neg, e, up]
    intro hl
    obtain ⟨x, ex⟩ := List.length_eq_one_iff.mp hl
    rw [ex] at e
    have e : [x] = a :: r := e
    cases e
    exact hr rfl
end DL
end
section
set_option maxHeartbeats 4000000
namespace DL
theorem Sup.trans {P Q R : Vec → Prop} (h : Sup P Q) (g : Sup Q R) : Sup P R := fun q hq p => by
  obtain ⟨x, hx, l⟩ := g q hq p
  obtain ⟨y, hy, l2⟩ := h x hx p
  exact ⟨y, hy, Int.le_trans l l2⟩
theorem lo_mem {P : Vec → Prop} : ∀ (r : List Vec) (a : Vec), P a → Lo P a r → ∀ v ∈ a :: r, P v
  | [], a, pa, _, v, hv => by rw [List.mem_singleton.mp hv]; exact pa
  | b :: r, a, pa, h, v, hv => by
    rcases List.mem_cons.mp hv with e | hv
    · rw [e]; exact pa
    · exact lo_mem r b h.1 h.2.2.2.2 v hv
theorem lo_last {P : Vec → Prop} : ∀ (r : List Vec) (a : Vec), P a → Lo P a r → P ((a :: r).getLast (by simp)) ∧ ∀ p, P p → p = (a :: r).getLast (by simp) ∨ vLt p ((a :: r).getLast (by simp))
  | [], a, pa, h => ⟨pa, h⟩
  | b :: r, a, pa, h => by
    rw [List.getLast_cons (by simp)]
    exact lo_last r b h.1 h.2.2.2.2
theorem max_uniq {P : Vec → Prop} {y z : Vec} (py : P y) (pz : P z) (my : ∀ p, P p → p = y ∨ vLt p y) (mz : ∀ p, P p → p = z ∨ vLt p z) : y = z := by
  rcases mz y py with e | e
  · exact e
  · rcases my z pz with e' | e'
    · exact e'.symm
    · exact (vLt_as e e').elim
theorem chain_end {P : Vec → Prop} {a an : Vec} {r rn : List Vec} (h : LoH P a r) (n : LoH (nP P) an rn) : (a :: r).getLast (by simp) = ng an := by
  obtain ⟨l1, l2⟩ := lo_last r a h.at_ h.lo
  refine max_uniq (P := P) l1 n.at_ l2 fun p hp => ?_
  rcases n.min (ng p) (show P (ng (ng p)) by rw [ng_ng]; exact hp) with e | e
  · exact .inl (by rw [← e, ng_ng])
  · exact .inr (by rw [← ng_lt, ng_ng]; exact e)
theorem chain_end' {P : Vec → Prop} {a an : Vec} {r rn : List Vec} (h : LoH P a r) (n : LoH (nP P) an rn) : (an :: rn).getLast (by simp) = ng a := chain_end n (by rw [nP_nP]; exact h)
theorem one_one {P : Vec → Prop} {a an : Vec} {r rn : List Vec} (h : LoH P a r) (n : LoH (nP P) an rn) (e : r = []) : rn = [] := by
  subst e
  have e1 : a = ng an := chain_end h n
  cases rn with
  | nil => rfl
  | cons b rn =>
    have p1 : P (ng b) := n.lo.1
    have e2 : ng b = a := by
      rcases h.min _ p1 with z | z
      · exact z
      · rcases h.lo _ p1 with y | y
        · exact y
        · exact (vLt_as z y).elim
    have l := n.lo.2.1
    rw [← ng_ng b, e2, e1, ng_ng] at l
    exact (vLt_irr l).elim
theorem mem_dropLast {x : Vec} {l : List Vec} (ne : l ≠ []) : x ∈ l ↔ x ∈ l.dropLast ∨ x = l.getLast ne := by
  conv => lhs; rw [← List.dropLast_concat_getLast ne]
  rw [List.mem_append, List.mem_singleton]
section
variable {vs : List Vec} {a an : Vec} {r rn : List Vec}
theorem HullOf.mem (h : HullOf vs a r an rn) (v : Vec) : v ∈ hull vs ↔ v ∈ a :: r ∨ ng v ∈ an :: rn := by
  have e1 := chain_end h.lo h.up
  have e2 := chain_end' h.lo h.up
  rw [h.is]
  by_cases hr : r = []
  · have hn := one_one h.lo h.up hr
    rw [if_pos hr]
    subst hr hn
    have e1 : a = ng an := e1
    rw [List.mem_singleton, List.mem_singleton, e1]
    refine ⟨.inl, fun z => z.elim id fun z => ?_⟩
    rw [← z, ng_ng]
  · rw [if_neg hr, List.mem_append]
    have hn : rn ≠ [] := fun e => hr (one_one h.up (by rw [nP_nP]; exact h.lo) e)
    have m1 := mem_dropLast (x := v) (l := a :: r) (by simp)
    have m2 := mem_dropLast (x := ng v) (l := an :: rn) (by simp)
    have m3 : v ∈ ((an :: rn).map ng).dropLast ↔ ng v ∈ (an :: rn).dropLast := by
      rw [← List.map_dropLast]
      constructor
      · intro z
        obtain ⟨y, hy, rfl⟩ := List.mem_map.mp z
        rw [ng_ng]; exact hy
      · intro z
        exact List.mem_map.mpr ⟨_, z, ng_ng v⟩
    rw [m3, m1, m2, e1, e2]
    have a1 : a ∈ (a :: r).dropLast := by
      cases r with
      | nil => exact absurd rfl hr
      | cons b r => simp
    have a2 : an ∈ (an :: rn).dropLast := by
      cases rn with
      | nil => exact absurd rfl hn
      | cons b r => simp
    constructor
    · rintro (z | z)
      · exact .inl (.inl z)
      · exact .inr (.inl z)
    · rintro ((z | z) | (z | z))
      · exact .inl z
      · rw [z, ng_ng]; exact .inr a2
      · exact .inr z
      · rw [ng_inj z]; exact .inl a1
theorem HullOf.max (h : HullOf vs a r an rn) (p : Vec) : ∃ v ∈ hull vs, ∀ q ∈ vs, crs q p ≤ crs v p := by
  by_cases z : lp p
  · obtain ⟨v, m, _, l⟩ := h.lo.max z
    exact ⟨v, (h.mem v).mpr (.inl m), l⟩
  · by_cases z2 : lp (ng p)
    · obtain ⟨v, m, _, l⟩ := h.up.max z2
      refine ⟨ng v, (h.mem _).mpr (.inr (by rw [ng_ng]; exact m)), fun q hq => ?_⟩
      have := l (ng q) (show ng (ng q) ∈ vs by rw [ng_ng]; exact hq)
      rw [crs_ng] at this
      rw [crs_ng1, ← crs_ng2]
      exact this
    · have e : p = (0, 0) := by
        obtain ⟨x, y⟩ := p
        unfold lp ng at z2
        unfold lp at z
        dsimp only at z z2
        rw [Prod.mk.injEq]
        omega
      refine ⟨a, (h.mem a).mpr (.inl List.mem_cons_self), fun q hq => ?_⟩
      rw [e, crs_zero, crs_zero]
      exact Int.le_refl 0
end
theorem hull_in {vs : List Vec} {v : Vec} (h : v ∈ hull vs) : v ∈ vs := by
  by_cases ne : vs = []
  · subst ne; exact h
  · obtain ⟨a, r, an, rn, g⟩ := hull_of ne
    rcases (g.mem v).mp h with z | z
    · exact lo_mem r a g.lo.at_ g.lo.lo v z
    · have : ng (ng v) ∈ vs := lo_mem rn an g.up.at_ g.up.lo (ng v) z
      rw [ng_ng] at this
      exact this
theorem hull_ne {vs : List Vec} (ne : vs ≠ []) : hull vs ≠ [] := by
  obtain ⟨a, r, an, rn, g⟩ := hull_of ne
  intro e
  have := (g.mem a).mpr (.inl List.mem_cons_self)
  rw [e] at this
  cases this
theorem sup_hull {vs : List Vec} (ne : vs ≠ []) : Sup (· ∈ hull vs) (· ∈ vs) := fun q hq p => by
  obtain ⟨a, r, an, rn, g⟩ := hull_of ne
  obtain ⟨v, m, l⟩ := g.max p
  exact ⟨v, m, l q hq⟩
end DL
end
section
namespace DL
end DL
end
section
namespace DL
end DL
end
section
namespace DL
end DL
end
section
set_option maxRecDepth 100000
set_option maxHeartbeats 4000000
set_option exponentiation.threshold 100000
namespace DL
open PySem L2
local macro_rules | `(tactic| l_ints) => `(tactic| first | (assumption) | (apply Bd.neg; l_ints) | (apply Bd.mul <;> l_ints) | (exact bd40 (by omega) (by omega)) | (apply Bd.add <;> l_ints) | (apply Bd.sub <;> l_ints) | (exact bd130 (by omega) (by omega)) | (exact bd210 (by omega) (by omega)) | (exact bd_self _) | fail)
theorem atI_top {α : Type} (f : α → D) (b : α) (S : List α) : atI ((b :: S).reverse.map f) (-1) = some (f b) := by
  unfold atI
  have e : ixN ((b :: S).reverse.map f).length (-1) = some S.length := by
    unfold ixN
    simp
    omega
  rw [e]
  simp
theorem atI_top2 {α : Type} (f : α → D) (b a : α) (S : List α) : atI ((b :: a :: S).reverse.map f) (-2) = some (f a) := by
  unfold atI
  have e : ixN ((b :: a :: S).reverse.map f).length (-2) = some S.length := by
    unfold ixN
    simp
    omega
  rw [e]
  simp [List.getElem?_append]
theorem half_len (row : List Vec) : (halfF row).length ≤ row.length := by
  have h2 : ∀ (v : Vec) (S : List Vec), (popF v S).length ≤ S.length := by
    intro v S
    induction S with
    | nil => exact Nat.le_refl _
    | cons b r ih =>
      cases r with
      | nil => exact Nat.le_refl _
      | cons a r =>
        unfold popF
        split
        · exact Nat.le_succ_of_le ih
        · exact Nat.le_refl _
  have h3 : ∀ (row S : List Vec), (stk S row).length ≤ S.length + row.length := by
    intro row
    induction row with
    | nil => intro S; exact Nat.le_refl _
    | cons v row ih =>
      intro S
      have := ih (v :: popF v S)
      have := h2 v S
      show (stk (v :: popF v S) row).length ≤ _
      simp only [List.length_cons] at *
      omega
  have := h3 row []
  unfold halfF
  simpa using this
theorem srtV_len : ∀ vs : List Vec, (srtV vs).length ≤ vs.length
  | [] => Nat.le_refl _
  | v :: vs => by
    have : ∀ ws : List Vec, (insV v ws).length ≤ ws.length + 1 := by
      intro ws
      induction ws with
      | nil => exact Nat.le_refl _
      | cons w ws ih =>
        unfold insV
        split
        · simp
        · split
          · simp
          · simpa using ih
    have h1 := this (srtV vs)
    have h2 := srtV_len vs
    show (insV v (srtV vs)).length ≤ _
    rw [List.length_cons]
    omega
end DL
end
section
namespace DL
end DL
end
section
namespace DL
end DL
end
section
namespace DL
end DL
end
section
namespace DL
end DL
end
section
namespace DL
end DL
end
section
set_option maxRecDepth 100000
set_option maxHeartbeats 4000000
set_option exponentiation.threshold 100000
namespace DL
open PySem L2
local macro_rules | `(tactic| l_ints) => `(tactic| first | (assumption) | (apply Bd.neg; l_ints) | (apply Bd.mul <;> l_ints) | (exact bd40 (by omega) (by omega)) | (apply Bd.add <;> l_ints) | (apply Bd.sub <;> l_ints) | (exact bd130 (by omega) (by omega)) | (exact bd210 (by omega) (by omega)) | (exact bd_self _) | fail)
def sp_law_measure : DSp := fun ds Q X => ∃ a b : Int, ds = [.int a, .int b] ∧ Q (.d (.int (Int.gcd a b)))
end DL
end
section
namespace DL
end DL
end
section
namespace DL
end DL
end
section
namespace DL
end DL
end
section
namespace DL
end DL
end
section
namespace DL
end DL
end
section
namespace DL
end DL
end
section
namespace DL
end DL
end
section
namespace DL
end DL
end
section
namespace DL
def m_along : Ss := (.cons (.ret (.call 1 (.cons (.bin .Add (.bin .Mult (.ix (.v 0) (.int 0)) (.ix (.v 1) (.int 0))) (.bin .Mult (.ix (.v 0) (.int 1)) (.ix (.v 1) (.int 1)))) (.cons (.ix (.v 1) (.int 2)) .nil)))) .nil)
end DL
end
section
set_option maxRecDepth 100000
set_option maxHeartbeats 4000000
set_option exponentiation.threshold 100000
namespace DL
open PySem L2
local macro_rules | `(tactic| l_ints) => `(tactic| first | (assumption) | (apply Bd.neg; l_ints) | (apply Bd.mul <;> l_ints) | (exact bd40 (by omega) (by omega)) | (apply Bd.add <;> l_ints) | (apply Bd.sub <;> l_ints) | (exact bd130 (by omega) (by omega)) | (exact bd210 (by omega) (by omega)) | (exact bd_self _) | fail)
abbrev Tri := Int × Int × Int
def pD (p : Tri) : D := .tuple [.int p.1, .int p.2.1, .int p.2.2]
def gcd3 (x y b : Int) : Nat := Int.gcd (Int.gcd x y) b
def plow (x y b : Int) : Tri := (x / gcd3 x y b, y / gcd3 x y b, b / gcd3 x y b)
def plc (e n : Rat) : Tri := plow (e.num * n.den) (n.num * e.den) (e.den * n.den)
def PD (e n : Rat) : D := pD (plc e n)
theorem gcd3_pos {x y b : Int} (hb : b ≠ 0) : 0 < gcd3 x y b := Int.gcd_pos_of_ne_zero_right _ hb
theorem gcd3_x {x y b : Int} : (gcd3 x y b : Int) ∣ x := Int.dvd_trans (Int.gcd_dvd_left ..) (Int.gcd_dvd_left ..)
theorem gcd3_y {x y b : Int} : (gcd3 x y b : Int) ∣ y := Int.dvd_trans (Int.gcd_dvd_left ..) (Int.gcd_dvd_right ..)
theorem gcd3_b {x y b : Int} : (gcd3 x y b : Int) ∣ b := Int.gcd_dvd_right ..
theorem gcd3_mul (x y b k : Int) : gcd3 (x * k) (y * k) (b * k) = gcd3 x y b * k.natAbs := by
  unfold gcd3
  rw [Int.gcd_mul_right]
  have : ((Int.gcd x y * k.natAbs : Nat) : Int).natAbs = ((Int.gcd x y : Int) * k).natAbs := by
    rw [Int.natAbs_mul]
    simp [Int.natAbs_mul]
  unfold Int.gcd at *
  rw [this, Int.natAbs_mul, Int.natAbs_mul, Nat.gcd_mul_right]
theorem dvd_gcd3 {d x y b : Int} (h1 : d ∣ x) (h2 : d ∣ y) (h3 : d ∣ b) : d ∣ (gcd3 x y b : Int) := Int.dvd_coe_gcd (Int.dvd_coe_gcd h1 h2) h3
structure PNorm (p : Tri) : Prop where
  pos : 0 < p.2.2
  one : gcd3 p.1 p.2.1 p.2.2 = 1
theorem plow_norm {x y b : Int} (hb : 0 < b) : PNorm (plow x y b) ∧ (plow x y b).1 * b = x * (plow x y b).2.2 ∧ (plow x y b).2.1 * b = y * (plow x y b).2.2 := by
  have g := gcd3_pos (x := x) (y := y) (show b ≠ 0 by omega)
  obtain ⟨u, hu⟩ := gcd3_x (x := x) (y := y) (b := b)
  obtain ⟨v, hv⟩ := gcd3_y (x := x) (y := y) (b := b)
  obtain ⟨w, hw⟩ := gcd3_b (x := x) (y := y) (b := b)
  generalize hG : gcd3 x y b = k at *
  have k0 : (k : Int) ≠ 0 := by omega
  have e1 : x / (k : Int) = u := by rw [hu, Int.mul_ediv_cancel_left _ k0]
  have e2 : y / (k : Int) = v := by rw [hv, Int.mul_ediv_cancel_left _ k0]
  have e3 : b / (k : Int) = w := by rw [hw, Int.mul_ediv_cancel_left _ k0]
  have e : plow x y b = (u, v, w) := by unfold plow; rw [hG, e1, e2, e3]
  rw [e]
  refine ⟨⟨?_, ?_⟩, ?_, ?_⟩
  · show 0 < w
    rcases Int.lt_trichotomy w 0 with h | h | h
    · have := Int.mul_neg_of_pos_of_neg (show (0 : Int) < k by omega) h
      omega
    · subst h; simp at hw; omega
    · exact h
  · show gcd3 u v w = 1
    have h := gcd3_mul u v w k
    rw [Int.mul_comm u, Int.mul_comm v, Int.mul_comm w, ← hu, ← hv, ← hw, hG] at h
    have h2 : k * 1 = k * gcd3 u v w := by rw [Nat.mul_one, Nat.mul_comm]; simpa using h
    exact (Nat.eq_of_mul_eq_mul_left g h2).symm
  · show u * b = x * w
    grind
  · show v * b = y * w
    grind
theorem norm_dvd {p q : Tri} (hp : PNorm p) (h1 : p.1 * q.2.2 = q.1 * p.2.2) (h2 : p.2.1 * q.2.2 = q.2.1 * p.2.2) : p.2.2 ∣ q.2.2 := by
  have d1 : p.2.2 ∣ p.1 * q.2.2 := ⟨q.1, by rw [h1, Int.mul_comm]⟩
  have d2 : p.2.2 ∣ p.2.1 * q.2.2 := ⟨q.2.1, by rw [h2, Int.mul_comm]⟩
  have d3 : p.2.2 ∣ p.2.2 * q.2.2 := ⟨_, rfl⟩
  have d := dvd_gcd3 d1 d2 d3
  rw [gcd3_mul, hp.one, Nat.one_mul] at d
  exact Int.dvd_natAbs.mp d
theorem norm_uniq {p q : Tri} (hp : PNorm p) (hq : PNorm q) (h1 : p.1 * q.2.2 = q.1 * p.2.2) (h2 : p.2.1 * q.2.2 = q.2.1 * p.2.2) : p = q := by
  have a := Int.le_of_dvd hq.pos (norm_dvd hp h1 h2)
  have b := Int.le_of_dvd hp.pos (norm_dvd hq h1.symm h2.symm)
  have e : p.2.2 = q.2.2 := Int.le_antisymm a b
  have n : q.2.2 ≠ 0 := by have := hq.pos; omega
  rw [e] at h1 h2
  obtain ⟨p1, p2, p3⟩ := p
  obtain ⟨q1, q2, q3⟩ := q
  simp only at e h1 h2 n
  rw [Int.mul_eq_mul_right_iff n] at h1 h2
  rw [h1, h2, e]
theorem plc_norm (e n : Rat) : PNorm (plc e n) ∧ (plc e n).1 * e.den = e.num * (plc e n).2.2 ∧ (plc e n).2.1 * n.den = n.num * (plc e n).2.2 := by
  have he := e.den_pos
  have hn := n.den_pos
  have hb : (0 : Int) < (e.den : Int) * n.den := Int.mul_pos (by omega) (by omega)
  obtain ⟨a, b, c⟩ := plow_norm (x := e.num * n.den) (y := n.num * e.den) hb
  refine ⟨a, ?_, ?_⟩
  · refine (Int.mul_eq_mul_right_iff (show (n.den : Int) ≠ 0 by omega)).mp ?_
    show (plow _ _ _).1 * e.den * n.den = e.num * (plow _ _ _).2.2 * n.den
    grind
  · refine (Int.mul_eq_mul_right_iff (show (e.den : Int) ≠ 0 by omega)).mp ?_
    show (plow _ _ _).2.1 * n.den * e.den = n.num * (plow _ _ _).2.2 * e.den
    grind
theorem plow_eq {x y b : Int} (hb : 0 < b) : plow x y b = plc (Rat.divInt x b) (Rat.divInt y b) := by
  obtain ⟨a1, a2, a3⟩ := plow_norm (x := x) (y := y) hb
  obtain ⟨b1, b2, b3⟩ := plc_norm (Rat.divInt x b) (Rat.divInt y b)
  have hb0 : b ≠ 0 := by omega
  have c1 := (Rat.divInt_eq_divInt_iff (den_ne (Rat.divInt x b)) hb0).mp (Rat.num_divInt_den (Rat.divInt x b))
  have c2 := (Rat.divInt_eq_divInt_iff (den_ne (Rat.divInt y b)) hb0).mp (Rat.num_divInt_den (Rat.divInt y b))
  have d1 := den_ne (Rat.divInt x b)
  have d2 := den_ne (Rat.divInt y b)
  generalize Rat.divInt x b = e at *
  generalize Rat.divInt y b = n at *
  generalize plow x y b = p at *
  generalize plc e n = q at *
  refine norm_uniq a1 b1 ?_ ?_
  · refine (Int.mul_eq_mul_right_iff (Int.mul_ne_zero hb0 d1)).mp ?_
    grind
  · refine (Int.mul_eq_mul_right_iff (Int.mul_ne_zero hb0 d2)).mp ?_
    grind
theorem plc_e (e n : Rat) : Rat.divInt (plc e n).1 (plc e n).2.2 = e ∧ Rat.divInt (plc e n).2.1 (plc e n).2.2 = n := by
  obtain ⟨b1, b2, b3⟩ := plc_norm e n
  have h := b1.pos
  constructor
  · exact ((Rat.divInt_eq_divInt_iff (show (plc e n).2.2 ≠ 0 by omega) (den_ne e)).mpr b2).trans (Rat.num_divInt_den e)
  · exact ((Rat.divInt_eq_divInt_iff (show (plc e n).2.2 ≠ 0 by omega) (den_ne n)).mpr b3).trans (Rat.num_divInt_den n)
def PB (k : Nat) (e n : Rat) : Prop := Bd k (plc e n).1 ∧ Bd k (plc e n).2.1 ∧ Bd k (plc e n).2.2
theorem PB.mono {m k : Nat} {e n : Rat} (h : PB m e n) (l : m ≤ k) : PB k e n := ⟨h.1.mono l, h.2.1.mono l, h.2.2.mono l⟩
theorem ediv_bd {k : Nat} {x : Int} (g : Nat) (h : Bd k x) : Bd k (x / g) := by
  exact h.le (Int.natAbs_ediv_le_natAbs x g)
theorem plow_bd {k : Nat} {x y b : Int} (h1 : Bd k x) (h2 : Bd k y) (h3 : Bd k b) : Bd k (plow x y b).1 ∧ Bd k (plow x y b).2.1 ∧ Bd k (plow x y b).2.2 := ⟨ediv_bd _ h1, ediv_bd _ h2, ediv_bd _ h3⟩
theorem PB.of {m k : Nat} {e n : Rat} (h : RB m e) (g : RB k n) : PB (m + k) e n := plow_bd (h.1.mul g.2) ((g.1.mul h.2).mono (by omega)) (h.2.mul g.2)
theorem PB.low {k : Nat} {x y b : Int} (hb : 0 < b) (h1 : Bd k x) (h2 : Bd k y) (h3 : Bd k b) : PB k (Rat.divInt x b) (Rat.divInt y b) := by
  unfold PB
  rw [← plow_eq hb]
  exact plow_bd h1 h2 h3
def sp_along : DSp := fun ds Q X => ∃ (a b : Int) (e n : Rat) (k m : Nat), ds = [vD (a, b), PD e n] ∧ PB k e n ∧ Bd m a ∧ Bd m b ∧ k + m ≤ 8990 ∧ Q (.d (rD (a * e + b * n)))
theorem plc_pos (e n : Rat) : 0 < (plc e n).2.2 := (plc_norm e n).1.pos
theorem gcd3_neg (x y b : Int) : gcd3 (-x) (-y) b = gcd3 x y b := by simp [gcd3, Int.gcd]
theorem plc_neg (e n : Rat) : plc (-e) (-n) = (-(plc e n).1, -(plc e n).2.1, (plc e n).2.2) := by
  obtain ⟨a1, a2, a3⟩ := plc_norm e n
  obtain ⟨b1, b2, b3⟩ := plc_norm (-e) (-n)
  rw [Rat.neg_num, Rat.neg_den] at b2 b3
  have he := den_ne e
  have hn := den_ne n
  refine norm_uniq b1 ⟨a1.pos, by rw [gcd3_neg]; exact a1.one⟩ ?_ ?_
  · refine (Int.mul_eq_mul_right_iff he).mp ?_
    show (plc (-e) (-n)).1 * (plc e n).2.2 * e.den = -(plc e n).1 * (plc (-e) (-n)).2.2 * e.den
    generalize plc e n = p at *
    generalize plc (-e) (-n) = q at *
    grind
  · refine (Int.mul_eq_mul_right_iff hn).mp ?_
    show (plc (-e) (-n)).2.1 * (plc e n).2.2 * n.den = -(plc e n).2.1 * (plc (-e) (-n)).2.2 * n.den
    generalize plc e n = p at *
    generalize plc (-e) (-n) = q at *
    grind
theorem along_eq (a b : Int) (e n : Rat) : Rat.divInt (a * (plc e n).1 + b * (plc e n).2.1) (plc e n).2.2 = a * e + b * n := by
  have hp := plc_pos e n
  have h1 := (plc_e e n).1
  have h2 := (plc_e e n).2
  rw [Rat.divInt_eq_div] at h1 h2 ⊢
  rw [Rat.intCast_add, Rat.intCast_mul, Rat.intCast_mul]
  generalize (plc e n).2.2 = c at *
  generalize (plc e n).1 = x at *
  generalize (plc e n).2.1 = y at *
  have hc : (c : Rat) ≠ 0 := fun z => by have := Rat.intCast_inj.mp (z.trans (by rfl : (0 : Rat) = ((0 : Int) : Rat))); omega
  grind
theorem p_along {G : Nat → DSp} (g1 : G 1 = sp_lowest) : FnW G 2 2 m_along sp_along := by
  intro ds Q X ⟨a, b, e, n, k, m, e0, h, ha, hb, l, q⟩
  subst e0
  refine ⟨rfl, ?_⟩
  conv => whnf
  refine ⟨mul_ok ha h.1 (by omega), ?_⟩
  conv => whnf
  refine ⟨mul_ok hb h.2.1 (by omega), ?_⟩
  conv => whnf
  have h1 := plc_pos e n
  rw [g1]
  refine ⟨_, _, rfl, low_ok (h.2.2.mono (by omega)), fun z => absurd z (by omega), fun _ => ?_⟩
  rw [along_eq]
  exact q
theorem PB.add {k m : Nat} {e n e' n' : Rat} (h : PB k e n) (h' : PB m e' n') : PB (k + m + 1) (e + e') (n + n') := by
  have h1 := plc_pos e n
  have h2 := plc_pos e' n'
  have a := PB.low (Int.mul_pos h1 h2) (((h.1.mul h'.2.2).add (h'.1.mul h.2.2)).mono (show _ ≤ k + m + 1 by omega)) (((h.2.1.mul h'.2.2).add (h'.2.1.mul h.2.2)).mono (by omega)) ((h.2.2.mul h'.2.2).mono (by omega))
  rw [← Rat.divInt_add_divInt _ _ (by omega) (by omega), ← Rat.divInt_add_divInt _ _ (by omega) (by omega), (plc_e e n).1, (plc_e e n).2, (plc_e e' n').1, (plc_e e' n').2] at a
  exact a
theorem PB.neg {k : Nat} {e n : Rat} (h : PB k e n) : PB k (-e) (-n) := by
  unfold PB
  rw [plc_neg]
  exact ⟨h.1.neg, h.2.1.neg, h.2.2⟩
end DL
end
section
namespace DL
end DL
end
section
set_option maxRecDepth 100000
set_option maxHeartbeats 4000000
set_option exponentiation.threshold 100000
namespace DL
open PySem L2
local macro_rules | `(tactic| l_ints) => `(tactic| first | (assumption) | (apply Bd.neg; l_ints) | (apply Bd.mul <;> l_ints) | (exact bd40 (by omega) (by omega)) | (apply Bd.add <;> l_ints) | (apply Bd.sub <;> l_ints) | (exact bd130 (by omega) (by omega)) | (exact bd210 (by omega) (by omega)) | (exact bd_self _) | fail)
theorem rng_ind {st : D → En → (En → Prop) → Prop} {body : DE → En → Prop} {E : DE} (P : Nat → En → Prop) (n : Nat) (h0 : ∀ ρ, P n ρ → E.nx ρ)
    (h1 : ∀ i ρ, i < n → P i ρ → ∀ nx : En → Prop, (∀ ρ', P (i + 1) ρ' → nx ρ') → st (.int i) ρ fun ρ2 => body { E with nx := nx, bk := E.nx } ρ2) (ρ : En) (h : P 0 ρ) : forLoop st body E (rngD 0 n) ρ := by
  refine forLoop_ind (fun ds ρ => ∃ i, i ≤ n ∧ ds = (rngD 0 n).drop i ∧ P i ρ) ?_ ?_ _ _ ⟨0, by omega, rfl, h⟩
  · rintro ρ ⟨i, hi, e, p⟩
    have : n ≤ i := by
      have := congrArg List.length e
      rw [List.length_drop, rng_len] at this
      simp at this
      omega
    have : i = n := by omega
    subst this
    exact h0 ρ p
  · rintro d ds ρ ⟨i, hi, e, p⟩ nx hnx
    have hlt : i < n := by
      have := congrArg List.length e
      rw [List.length_drop, rng_len] at this
      simp at this
      omega
    have e2 : (rngD 0 n).drop i = (.int (i : Int)) :: (rngD 0 n).drop (i + 1) := by
      rw [List.drop_eq_getElem_cons (by rw [rng_len]; exact hlt)]
      congr 1
      unfold rngD
      simp
    rw [e2] at e
    cases e
    exact h1 i ρ hlt p nx fun ρ' p' => hnx ρ' ⟨i + 1, by omega, rfl, p'⟩
end DL
end
section
namespace DL
end DL
end
section
namespace DL
end DL
end
section
namespace DL
end DL
end
section
set_option maxRecDepth 100000
set_option maxHeartbeats 4000000
set_option exponentiation.threshold 100000
namespace DL
open PySem L2
local macro_rules | `(tactic| l_ints) => `(tactic| first | (assumption) | (apply Bd.neg; l_ints) | (apply Bd.mul <;> l_ints) | (exact bd40 (by omega) (by omega)) | (apply Bd.add <;> l_ints) | (apply Bd.sub <;> l_ints) | (exact bd130 (by omega) (by omega)) | (exact bd210 (by omega) (by omega)) | (exact bd_self _) | fail)
end DL
end
section
namespace DL
end DL
end
section
namespace DL
end DL
end
section
namespace DL
end DL
end
section
namespace DL
end DL
end
section
namespace DL
end DL
end
section
set_option maxRecDepth 100000
set_option maxHeartbeats 4000000
set_option exponentiation.threshold 100000
namespace DL
open PySem L2
local macro_rules | `(tactic| l_ints) => `(tactic| first | (assumption) | (apply Bd.neg; l_ints) | (apply Bd.mul <;> l_ints) | (exact bd40 (by omega) (by omega)) | (apply Bd.add <;> l_ints) | (apply Bd.sub <;> l_ints) | (exact bd130 (by omega) (by omega)) | (exact bd210 (by omega) (by omega)) | (exact bd_self _) | fail)
end DL
end
section
namespace DL
end DL
end
section
namespace DL
end DL
end
section
namespace DL
end DL
end
section
namespace DL
end DL
end
section
namespace DL
end DL
end
section
namespace DL
end DL
end
section
set_option maxRecDepth 100000
set_option maxHeartbeats 4000000
set_option exponentiation.threshold 100000
namespace DL
open PySem L2
local macro_rules | `(tactic| l_ints) => `(tactic| first | (assumption) | (apply Bd.neg; l_ints) | (apply Bd.mul <;> l_ints) | (exact bd40 (by omega) (by omega)) | (apply Bd.add <;> l_ints) | (apply Bd.sub <;> l_ints) | (exact bd130 (by omega) (by omega)) | (exact bd210 (by omega) (by omega)) | (exact bd_self _) | fail)
theorem lc_each {α β : Type} {G : Nat → DSp} {t : Tg} {el : En → (R → Prop) → Prop} {ρ : En} {Q : R → Prop} (f : α → D) (g : β → D) (P : β → Prop) (xs : List α)
    (h1 : ∀ x ∈ xs, ∀ k : D → Prop, (∀ y, P y → k (g y)) → stT t (f x) ρ fun ρ2 => el ρ2 fun r => frzP r k)
    (h0 : ∀ ys : List β, ys.length = xs.length → (∀ y ∈ ys, P y) → Q (.l (ys.map g) true)) : lcLoop (stT t) (fun ρ2 k => wCond G .nil ρ2 k) el ρ (xs.map f) [] Q := by
  refine lc_ind (fun ds acc => ∃ zs ys, ds = zs.map f ∧ acc = ys.map g ∧ ys.length + zs.length = xs.length ∧ (∀ z ∈ zs, z ∈ xs) ∧ ∀ y ∈ ys, P y) ?_ ?_ _ _ ⟨xs, [], rfl, rfl, by simp, fun _ h => h, by simp⟩
  · rintro acc ⟨zs, ys, e1, e2, e3, e4, e5⟩
    have : zs = [] := by simpa using e1.symm
    subst this e2
    exact h0 ys (by simpa using e3) e5
  · rintro d ds acc ⟨zs, ys, e1, e2, e3, e4, e5⟩ k hk
    cases zs with
    | nil => cases e1
    | cons z zs =>
      cases e1
      subst e2
      refine stT_mono (fun ρ2 h => show wCond G .nil ρ2 _ from (show wIf true _ _ from wIf_tt h)) (h1 z (e4 z List.mem_cons_self) (fun y => k (ys.map g ++ [y])) fun y hy => ?_)
      refine hk _ ⟨zs, ys ++ [y], rfl, by simp, by simp at e3 ⊢; omega, fun u hu => e4 u (List.mem_cons_of_mem _ hu), fun u hu => ?_⟩
      rcases List.mem_append.mp hu with h | h
      · exact e5 u h
      · rw [List.mem_singleton.mp h]; exact hy
end DL
end
section
namespace DL
def m_law_cell_at : Ss := (.cons (.ifs (.cmp .Lt (.v 1) (.bi .len (.cons (.v 0) .nil))) (.cons (.ret (.ix (.v 0) (.v 1))) .nil) .nil) (.cons (.ret (.int 0)) .nil))
end DL
end
section
namespace DL
end DL
end
section
namespace DL
end DL
end
section
namespace DL
end DL
end
section
namespace DL
end DL
end
section
namespace DL
end DL
end
section
set_option maxRecDepth 100000
set_option maxHeartbeats 4000000
set_option exponentiation.threshold 100000
namespace DL
open PySem L2
local macro_rules | `(tactic| l_ints) => `(tactic| first | (assumption) | (apply Bd.neg; l_ints) | (apply Bd.mul <;> l_ints) | (exact bd40 (by omega) (by omega)) | (apply Bd.add <;> l_ints) | (apply Bd.sub <;> l_ints) | (exact bd130 (by omega) (by omega)) | (exact bd210 (by omega) (by omega)) | (exact bd_self _) | fail)
def sp_law_cell_at : DSp := fun ds Q X => ∃ (ns : List Int) (k : Nat), ds = [.list (ns.map .int), .int k] ∧ ∀ c : Int, (k < ns.length ∨ c = 0) → Q (.d (.int c))
theorem p_law_cell_at {G : Nat → DSp} : FnW G 2 2 m_law_cell_at sp_law_cell_at := by
  intro ds Q X ⟨ns, k, e, q⟩
  subst e
  refine ⟨rfl, ?_⟩
  ((conv => whnf); repeat' (first | (refine wIf_tt ?_; conv => whnf) | (refine wIf_ff ?_; conv => whnf) | (refine wIf.mk (fun hif => (have hif := of_decide_eq_true hif; ?_)) (fun hif => (have hif := of_decide_eq_false hif; ?_)) <;> (conv => whnf)) | (refine wIf_not ?_) | (refine ⟨(by decide : (_ : Int) ≠ 0), fun w _ hw => ?_⟩; replace hw := hw (by decide); conv => whnf) | (refine ⟨(by decide : (_ : Int) ≠ 0), div_lit (by decide), fun w _ hw => ?_⟩; replace hw := hw (by decide); conv => whnf) | (refine eq_rD ?_; conv => whnf) | (refine eq_ts ?_; conv => whnf) | (refine ne_ts ?_; conv => whnf) | (refine ne_rD ?_; conv => whnf) | (refine eq_vD ?_; conv => whnf) | (refine ne_vD ?_; conv => whnf) | (refine ⟨isi_ok rfl, ?_⟩; conv => whnf) | (apply wMulS.mk; (first | exact mul_l (by decide) (by decide) | exact mul_r (by decide) (by decide) | exact mul_ok (by l_ints) (by l_ints) (by decide)); conv => whnf) | (refine ⟨⟨by decide, by decide, by decide⟩, ?_⟩; conv => whnf) | (refine ⟨⟨by decide, by decide, by omega⟩, ?_⟩; conv => whnf) | (refine ⟨small_sz (Nat.le_of_ble_eq_true rfl), ?_⟩; conv => whnf) | fail))
  · have h := hif
    obtain ⟨d, h1, h2⟩ := atI_mem (ds := ns.map .int) (i := (k : Int)) (by omega) (by simpa using hif)
    obtain ⟨c, h3, h4⟩ := List.mem_map.mp h2
    rw [h1, ← h4]
    exact q c (.inl (by simpa using hif))
  · exact q 0 (.inr rfl)
abbrev Wt := List Vec × Vec
structure WtOk (k n : Nat) (w : Wt) : Prop where
  ne : w.1 ≠ []
  len : w.1.length ≤ n
  vb : ∀ v ∈ w.1, VB k v
  st : VB k w.2
end DL
end
section
namespace DL
end DL
end
section
namespace DL
end DL
end
section
namespace DL
end DL
end
section
namespace DL
end DL
end
section
namespace DL
end DL
end
section
namespace DL
end DL
end
section
namespace DL
end DL
end
section
namespace DL
end DL
end
section
namespace DL
end DL
end
section
set_option maxRecDepth 100000
set_option maxHeartbeats 4000000
set_option exponentiation.threshold 100000
namespace DL
open PySem L2
local macro_rules | `(tactic| l_ints) => `(tactic| first | (assumption) | (apply Bd.neg; l_ints) | (apply Bd.mul <;> l_ints) | (exact bd40 (by omega) (by omega)) | (apply Bd.add <;> l_ints) | (apply Bd.sub <;> l_ints) | (exact bd130 (by omega) (by omega)) | (exact bd210 (by omega) (by omega)) | (exact bd_self _) | fail)
abbrev Pr := List Vec × Int
structure PrOk (k n : Nat) (p : Pr) : Prop where
  ne : p.1 ≠ []
  len : p.1.length ≤ n
  vb : ∀ v ∈ p.1, VB k v
end DL
end
section
set_option maxHeartbeats 4000000
namespace DL
def av (u v : Vec) : Vec := (u.1 + v.1, u.2 + v.2)
instance (u : Vec) : Decidable (lp u) := inferInstanceAs (Decidable (_ ∨ _))
end DL
end
section
namespace DL
end DL
end
section
namespace DL
end DL
end
section
namespace DL
end DL
end
section
namespace DL
end DL
end
section
namespace DL
end DL
end
section
set_option maxRecDepth 100000
set_option maxHeartbeats 4000000
set_option exponentiation.threshold 100000
namespace DL
open PySem L2
local macro_rules | `(tactic| l_ints) => `(tactic| first | (assumption) | (apply Bd.neg; l_ints) | (apply Bd.mul <;> l_ints) | (exact bd40 (by omega) (by omega)) | (apply Bd.add <;> l_ints) | (apply Bd.sub <;> l_ints) | (exact bd130 (by omega) (by omega)) | (exact bd210 (by omega) (by omega)) | (exact bd_self _) | fail)
end DL
end
section
set_option maxHeartbeats 4000000
namespace DL
section
variable {vs : List Vec} {a an : Vec} {r rn : List Vec}
end
end DL
end
section
set_option maxHeartbeats 4000000
namespace DL
section
variable {vs : List Vec} {a an : Vec} {r rn : List Vec}
end
structure Within (vs : List Vec) (x y b : Int) : Prop where
  pos : 0 < b
  le : ∀ (p : Vec) (m : Int), (∀ u ∈ vs, crs u p ≤ m) → crs (x, y) p ≤ m * b
theorem Within.dot {vs : List Vec} {x y b : Int} (h : Within vs x y b) (d : Vec) (m : Int) (g : ∀ u ∈ vs, dot d u ≤ m) : dot d (x, y) ≤ m * b := by
  rw [dot_crs]
  exact h.le _ m fun u hu => by rw [← dot_crs]; exact g u hu
end DL
end
section
set_option maxHeartbeats 4000000
namespace DL
def farV : List Vec → Vec → Int
  | [], _ => 0
  | [v], d => dot v d
  | v :: w :: t, d => max (dot v d) (farV (w :: t) d)
theorem farV_spec : ∀ (L : List Vec) (d : Vec), L ≠ [] → (∃ v ∈ L, dot v d = farV L d) ∧ ∀ v ∈ L, dot v d ≤ farV L d
  | [], _, h => absurd rfl h
  | [v], d, _ => ⟨⟨v, by simp, rfl⟩, fun u hu => by rw [List.mem_singleton.mp hu]; exact Int.le_refl _⟩
  | v :: w :: t, d, _ => by
    obtain ⟨⟨u, hu, e⟩, g⟩ := farV_spec (w :: t) d (by simp)
    have un : farV (v :: w :: t) d = max (dot v d) (farV (w :: t) d) := rfl
    refine ⟨?_, fun x hx => ?_⟩
    · by_cases c : dot v d ≤ farV (w :: t) d
      · exact ⟨u, List.mem_cons_of_mem _ hu, by rw [un, e]; omega⟩
      · exact ⟨v, List.mem_cons_self, by rw [un]; omega⟩
    · rw [un]
      rcases List.mem_cons.mp hx with z | z
      · rw [z]; omega
      · have := g x z; omega
theorem farV_eq {L : List Vec} {d : Vec} {m : Int} (h : ∃ v ∈ L, dot v d = m) (g : ∀ v ∈ L, dot v d ≤ m) : farV L d = m := by
  obtain ⟨v, hv, e⟩ := h
  obtain ⟨⟨u, hu, e2⟩, g2⟩ := farV_spec L d (fun z => by rw [z] at hv; cases hv)
  have := g2 v hv
  have := g u hu
  omega
theorem dot_comm (u v : Vec) : dot u v = dot v u := by unfold dot; grind
section
variable {vs : List Vec} (ne : vs ≠ [])
include ne
theorem far_hull (d : Vec) : farV (hull vs) d = farV vs d := by
  obtain ⟨⟨u, hu, e⟩, g⟩ := farV_spec vs d ne
  refine farV_eq ?_ fun v hv => g v (hull_in hv)
  obtain ⟨x, hx, l⟩ := sup_hull ne u hu (-d.2, d.1)
  rw [← dot_crs, ← dot_crs, dot_comm, dot_comm d x] at l
  exact ⟨x, hx, by have := g x (hull_in hx); omega⟩
end
end DL
end
section
namespace DL
end DL
end
section
namespace DL
end DL
end
section
namespace DL
end DL
end
section
namespace DL
end DL
end
section
namespace DL
end DL
end
section
set_option maxRecDepth 100000
set_option maxHeartbeats 4000000
set_option exponentiation.threshold 100000
namespace DL
open PySem L2
local macro_rules | `(tactic| l_ints) => `(tactic| first | (assumption) | (apply Bd.neg; l_ints) | (apply Bd.mul <;> l_ints) | (exact bd40 (by omega) (by omega)) | (apply Bd.add <;> l_ints) | (apply Bd.sub <;> l_ints) | (exact bd130 (by omega) (by omega)) | (exact bd210 (by omega) (by omega)) | (exact bd_self _) | fail)
end DL
end
section
set_option maxRecDepth 100000
set_option maxHeartbeats 4000000
set_option exponentiation.threshold 100000
namespace DL
open PySem L2
local macro_rules | `(tactic| l_ints) => `(tactic| first | (assumption) | (apply Bd.neg; l_ints) | (apply Bd.mul <;> l_ints) | (exact bd40 (by omega) (by omega)) | (apply Bd.add <;> l_ints) | (apply Bd.sub <;> l_ints) | (exact bd130 (by omega) (by omega)) | (exact bd210 (by omega) (by omega)) | (exact bd_self _) | fail)
abbrev Sh := Nat × Rat
structure ShOk (k n : Nat) (s : Sh) : Prop where
  lt : s.1 < n
  pos : 0 < s.2.num
  rb : RB k s.2
structure Good (k n : Nat) (ss : List Sh) : Prop where
  len : ss.length ≤ 120
  ok : ∀ s ∈ ss, ShOk k n s
  up : ss.Pairwise fun a b => a.1 < b.1
theorem Good.mono {k m n : Nat} {ss : List Sh} (h : Good k n ss) (l : k ≤ m) : Good m n ss := ⟨h.len, fun s hs => let o := h.ok s hs; ⟨o.lt, o.pos, o.rb.mono l⟩, h.up⟩
def prd (ss : List Sh) : Int := ss.foldl (fun b s => b * s.2.den) 1
def qtot (f : Nat → Int) (ss : List Sh) : Rat := ss.foldl (fun a s => a + (f s.1 : Rat) * s.2) 0
abbrev Raw := Int × Int × Int
def vAt (vs : List Vec) (i : Nat) : Vec := vs.getD i (0, 0)
end DL
end
section
namespace DL
end DL
end
section
namespace DL
end DL
end
section
namespace DL
end DL
end
section
namespace DL
end DL
end
section
namespace DL
end DL
end
section
namespace DL
end DL
end
section
namespace DL
end DL
end
section
namespace DL
end DL
end
section
namespace DL
end DL
end
section
namespace DL
end DL
end
section
namespace DL
end DL
end
section
set_option maxRecDepth 100000
set_option maxHeartbeats 4000000
set_option exponentiation.threshold 100000
namespace DL
open PySem L2
local macro_rules | `(tactic| l_ints) => `(tactic| first | (assumption) | (apply Bd.neg; l_ints) | (apply Bd.mul <;> l_ints) | (exact bd40 (by omega) (by omega)) | (apply Bd.add <;> l_ints) | (apply Bd.sub <;> l_ints) | (exact bd130 (by omega) (by omega)) | (exact bd210 (by omega) (by omega)) | (exact bd_self _) | fail)
def eF (vs : List Vec) (i : Nat) : Int := (vAt vs i).1
def nF (vs : List Vec) (i : Nat) : Int := (vAt vs i).2
structure SzOk (a k L : Nat) : Prop where
  a1 : 1 ≤ a
  le : 2 * a + 2 * k + L ≤ 8900
def one1 : Nat → Int := fun _ => 1
end DL
end
section
namespace DL
end DL
end
section
namespace DL
end DL
end
section
namespace DL
end DL
end
section
namespace DL
end DL
end
section
namespace DL
end DL
end
section
set_option maxRecDepth 100000
set_option maxHeartbeats 4000000
set_option exponentiation.threshold 100000
namespace DL
open PySem L2
local macro_rules | `(tactic| l_ints) => `(tactic| first | (assumption) | (apply Bd.neg; l_ints) | (apply Bd.mul <;> l_ints) | (exact bd40 (by omega) (by omega)) | (apply Bd.add <;> l_ints) | (apply Bd.sub <;> l_ints) | (exact bd130 (by omega) (by omega)) | (exact bd210 (by omega) (by omega)) | (exact bd_self _) | fail)
end DL
end
section
namespace DL
end DL
end
section
set_option maxRecDepth 100000
set_option maxHeartbeats 4000000
set_option exponentiation.threshold 100000
namespace DL
open PySem L2
local macro_rules | `(tactic| l_ints) => `(tactic| first | (assumption) | (apply Bd.neg; l_ints) | (apply Bd.mul <;> l_ints) | (exact bd40 (by omega) (by omega)) | (apply Bd.add <;> l_ints) | (apply Bd.sub <;> l_ints) | (exact bd130 (by omega) (by omega)) | (exact bd210 (by omega) (by omega)) | (exact bd_self _) | fail)
end DL
end
section
set_option maxRecDepth 100000
set_option maxHeartbeats 4000000
set_option exponentiation.threshold 100000
namespace DL
open PySem L2
local macro_rules | `(tactic| l_ints) => `(tactic| first | (assumption) | (apply Bd.neg; l_ints) | (apply Bd.mul <;> l_ints) | (exact bd40 (by omega) (by omega)) | (apply Bd.add <;> l_ints) | (apply Bd.sub <;> l_ints) | (exact bd130 (by omega) (by omega)) | (exact bd210 (by omega) (by omega)) | (exact bd_self _) | fail)
structure WgOk (vs : List Vec) (m : Nat) (r : Int × Int × Int) : Prop where
  wi : Within vs r.1 r.2.1 r.2.2
  xy : VB m (r.1, r.2.1)
  bd : Bd 20 r.2.2
theorem for_map {α : Type} {st : D → En → (En → Prop) → Prop} {body : DE → En → Prop} {E : DE} (f : α → D) (xs : List α) (P : En → Prop) (h0 : ∀ ρ, P ρ → E.nx ρ)
    (h1 : ∀ x ∈ xs, ∀ ρ, P ρ → ∀ nx : En → Prop, (∀ ρ', P ρ' → nx ρ') → st (f x) ρ fun ρ2 => body { E with nx := nx, bk := E.nx } ρ2) (ρ : En) (h : P ρ) : forLoop st body E (xs.map f) ρ := by
  refine forLoop_ind (fun ds ρ => ∃ zs : List α, ds = zs.map f ∧ (∀ z ∈ zs, z ∈ xs) ∧ P ρ) ?_ ?_ _ _ ⟨xs, rfl, fun _ h => h, h⟩
  · rintro ρ ⟨zs, _, _, h⟩
    exact h0 ρ h
  · rintro d ds ρ ⟨zs, e, m, h⟩ nx hnx
    cases zs with
    | nil => cases e
    | cons z zs =>
      cases e
      exact h1 z (m z List.mem_cons_self) ρ h nx fun ρ' h' => hnx ρ' ⟨zs, rfl, fun y hy => m y (List.mem_cons_of_mem _ hy), h'⟩
end DL
end
section
set_option maxHeartbeats 4000000
namespace DL
section
variable {P : Vec → Prop}
end
theorem along {s t : Vec} (h : crs s t = 0) (w : Vec) : crs w t * dot s s = crs w s * dot s t := by
  have e : crs w t * dot s s = crs w s * dot s t + dot w s * crs s t := by unfold crs dot; grind
  rw [e, h, Int.mul_zero, Int.add_zero]
end DL
end
section
set_option maxHeartbeats 4000000
namespace DL
def cbV (x y b : Int) (c : Vec) : Vec := (c.1 * b - x, c.2 * b - y)
structure RoundOk (L : List Vec) (x y b : Int) (cr : List (Vec × Int)) : Prop where
  mem : ∀ c ∈ cr, c.1 ∈ L
  nd : (cr.map (·.1)).Nodup
  nn : ∀ c ∈ cr, 0 ≤ c.2
  pos : 0 < (cr.map (·.2)).sum
  ex : (cr.map fun c => c.2 * c.1.1).sum * b = (cr.map (·.2)).sum * x
  ey : (cr.map fun c => c.2 * c.1.2).sum * b = (cr.map (·.2)).sum * y
  len : cr.length ≤ 3
section
variable {vs : List Vec} {x y b : Int}
def w3 (x y b : Int) (p q r : Vec) : List Int := [crs (cbV x y b q) (cbV x y b r), crs (cbV x y b r) (cbV x y b p), crs (cbV x y b p) (cbV x y b q)]
theorem RoundOk.le {L : List Vec} {cr : List (Vec × Int)} (o : RoundOk L x y b cr) (hb : 0 < b) (p : Vec) (m : Int) (h : ∀ u ∈ L, crs u p ≤ m) : crs (x, y) p ≤ m * b := by
  have key : ∀ cr : List (Vec × Int), (∀ c ∈ cr, c.1 ∈ L) → (∀ c ∈ cr, 0 ≤ c.2) → (cr.map fun c => c.2 * c.1.1).sum * p.2 - (cr.map fun c => c.2 * c.1.2).sum * p.1 ≤ (cr.map (·.2)).sum * m := by
    intro cr
    induction cr with
    | nil => intro _ _; simp
    | cons c cr ih =>
      intro hm hn
      have i := ih (fun z hz => hm z (List.mem_cons_of_mem _ hz)) fun z hz => hn z (List.mem_cons_of_mem _ hz)
      have l := Int.mul_le_mul_of_nonneg_left (h _ (hm c List.mem_cons_self)) (hn c List.mem_cons_self)
      simp only [List.map_cons, List.sum_cons]
      have e : c.2 * crs c.1 p = c.2 * c.1.1 * p.2 - c.2 * c.1.2 * p.1 := by unfold crs; grind
      rw [e] at l
      rw [Int.add_mul, Int.add_mul, Int.add_mul]
      omega
  have k := key cr o.mem o.nn
  have ex := o.ex
  have ey := o.ey
  have pos := o.pos
  generalize (cr.map fun c => c.2 * c.1.1).sum = sx at *
  generalize (cr.map fun c => c.2 * c.1.2).sum = sy at *
  generalize (cr.map (·.2)).sum = W at *
  have k2 := Int.mul_le_mul_of_nonneg_right k (Int.le_of_lt hb)
  have e1 : (sx * p.2 - sy * p.1) * b = W * crs (x, y) p := by
    have : (sx * p.2 - sy * p.1) * b = (sx * b) * p.2 - (sy * b) * p.1 := by grind
    rw [this, ex, ey]
    unfold crs
    grind
  rw [e1, Int.mul_assoc] at k2
  exact Int.le_of_mul_le_mul_left k2 pos
end
end DL
end
section
namespace DL
end DL
end
section
namespace DL
end DL
end
section
namespace DL
end DL
end
section
namespace DL
end DL
end
section
namespace DL
end DL
end
section
namespace DL
end DL
end
section
set_option maxRecDepth 100000
set_option maxHeartbeats 4000000
set_option exponentiation.threshold 100000
namespace DL
open PySem L2
local macro_rules | `(tactic| l_ints) => `(tactic| first | (assumption) | (apply Bd.neg; l_ints) | (apply Bd.mul <;> l_ints) | (exact bd40 (by omega) (by omega)) | (apply Bd.add <;> l_ints) | (apply Bd.sub <;> l_ints) | (exact bd130 (by omega) (by omega)) | (exact bd210 (by omega) (by omega)) | (exact bd_self _) | fail)
structure LeadTo (vs : List Vec) (ss : List Sh) (e n : Rat) : Prop where
  e : qtot (eF vs) ss = e
  n : qtot (nF vs) ss = n
  one : qtot one1 ss = 1
end DL
end
section
namespace DL
end DL
end
section
namespace DL
end DL
end
section
namespace DL
end DL
end
section
set_option maxRecDepth 100000
set_option maxHeartbeats 4000000
set_option exponentiation.threshold 100000
namespace DL
open PySem L2
local macro_rules | `(tactic| l_ints) => `(tactic| first | (assumption) | (apply Bd.neg; l_ints) | (apply Bd.mul <;> l_ints) | (exact bd40 (by omega) (by omega)) | (apply Bd.add <;> l_ints) | (apply Bd.sub <;> l_ints) | (exact bd130 (by omega) (by omega)) | (exact bd210 (by omega) (by omega)) | (exact bd_self _) | fail)
abbrev Row3 := Int × Int × Int
structure R3Ok (k m : Nat) (r : Row3) : Prop where
  xy : VB k (r.1, r.2.1)
  pos : 0 < r.2.2
  bd : Bd m r.2.2
end DL
end
section
set_option maxRecDepth 100000
set_option maxHeartbeats 4000000
namespace DL
open PySem L2
end DL
end
section
set_option maxHeartbeats 4000000
namespace DL
end DL
end
section
namespace DL
end DL
end
section
namespace DL
end DL
end
section
set_option maxRecDepth 100000
set_option maxHeartbeats 4000000
set_option exponentiation.threshold 100000
namespace DL
open PySem L2
local macro_rules | `(tactic| l_ints) => `(tactic| first | (assumption) | (apply Bd.neg; l_ints) | (apply Bd.mul <;> l_ints) | (exact bd40 (by omega) (by omega)) | (apply Bd.add <;> l_ints) | (apply Bd.sub <;> l_ints) | (exact bd130 (by omega) (by omega)) | (exact bd210 (by omega) (by omega)) | (exact bd_self _) | fail)
end DL
end
section
namespace DL
end DL
end
section
namespace DL
end DL
end
section
namespace DL
end DL
end
section
namespace DL
end DL
end
section
namespace DL
end DL
end
section
set_option maxRecDepth 100000
set_option maxHeartbeats 4000000
set_option exponentiation.threshold 100000
namespace DL
open PySem L2
local macro_rules | `(tactic| l_ints) => `(tactic| first | (assumption) | (apply Bd.neg; l_ints) | (apply Bd.mul <;> l_ints) | (exact bd40 (by omega) (by omega)) | (apply Bd.add <;> l_ints) | (apply Bd.sub <;> l_ints) | (exact bd130 (by omega) (by omega)) | (exact bd210 (by omega) (by omega)) | (exact bd_self _) | fail)
def Ss.dr : Nat → Ss → Ss
  | 0, s => s
  | n + 1, .cons _ s => Ss.dr n s
  | _ + 1, .nil => .nil
theorem eqv_pD (p q : Tri) : PyData.eqv (pD p) (pD q) = decide (p = q) := by
  obtain ⟨a, b, c⟩ := p
  obtain ⟨a', b', c'⟩ := q
  unfold pD
  rw [eqv_tup, eqv_cons, eqv_cons, eqv_cons, eqv_nil, eqv_i, eqv_i, eqv_i, Bool.eq_iff_iff]
  simp
theorem plc_inj {e n e' n' : Rat} : plc e n = plc e' n' ↔ e = e' ∧ n = n' := by
  constructor
  · intro h
    have h1 := plc_e e n
    have h2 := plc_e e' n'
    rw [h] at h1
    exact ⟨h1.1.symm.trans h2.1, h1.2.symm.trans h2.2⟩
  · rintro ⟨rfl, rfl⟩
    rfl
theorem eqv_PD (e n e' n' : Rat) : PyData.eqv (PD e n) (PD e' n') = decide (e = e' ∧ n = n') := by
  unfold PD
  rw [eqv_pD]
  exact decide_eq_decide.mpr plc_inj
inductive Ans where
  | sailed (rs : List Raw)
  | other (w : Str) (d : Vec)
end DL
end
section
namespace DL
def m_places_sorted : Ss := (.cons (.set 1 (.int 1)) (.cons (.for_ (.nm 2) (.ex (.v 0)) (.cons (.ifs (.cmp .NotEq (.bin .Mod (.v 1) (.ix (.v 2) (.int 2))) (.int 0)) (.cons (.set 1 (.bin .Mult (.v 1) (.ix (.call 1 (.cons (.ix (.v 2) (.int 2)) (.cons (.v 1) .nil))) (.int 0)))) .nil) .nil) .nil)) (.cons (.dsrt (.ex (.v 0)) 3 2 4 5 [("vector", 5)] (.bin .FloorDiv (.v 1) (.ix (.v 2) (.int 2))) (.bin .Mult (.ix (.v 2) (.int 0)) (.v 4)) (.bin .Mult (.ix (.v 2) (.int 1)) (.v 4))) .nil)))
end DL
end
section
namespace DL
def m_step_between_2 : Ss := (.cons (.ret (.tup (.cons (.bin .Sub (.bin .Mult (.ix (.v 1) (.int 0)) (.ix (.v 0) (.int 2))) (.bin .Mult (.ix (.v 0) (.int 0)) (.ix (.v 1) (.int 2)))) (.cons (.bin .Sub (.bin .Mult (.ix (.v 1) (.int 1)) (.ix (.v 0) (.int 2))) (.bin .Mult (.ix (.v 0) (.int 1)) (.ix (.v 1) (.int 2)))) .nil)))) .nil)
end DL
end
section
namespace DL
def m_turn_at : Ss := (.cons (.ret (.call 32 (.cons (.call 292 (.cons (.v 0) (.cons (.v 1) .nil))) (.cons (.call 292 (.cons (.v 1) (.cons (.v 2) .nil))) .nil)))) .nil)
end DL
end
section
namespace DL
def m_outer_half : Ss := (.cons (.set 1 (.lst .nil)) (.cons (.for_ (.nm 2) (.ex (.v 0)) (.cons (.whl (.and (.cmp .Gt (.bi .len (.cons (.v 1) .nil)) (.int 1)) (.cmp .LtE (.call 293 (.cons (.ix (.v 1) (.neg (.int 2))) (.cons (.ix (.v 1) (.neg (.int 1))) (.cons (.v 2) .nil)))) (.int 0))) (.cons (.pop 1) .nil)) (.cons (.app 1 (.v 2)) .nil))) (.cons (.frz 1) (.cons (.frz 1) (.cons (.ret (.v 1)) .nil)))))
end DL
end
section
namespace DL
def m_area_of : Ss := (.cons (.set 1 (.call 294 (.cons (.v 0) .nil))) (.cons (.frz 1) (.cons (.ifs (.cmp .Lt (.bi .len (.cons (.v 1) .nil)) (.int 3)) (.cons (.ret (.bi .tuple1 (.cons (.v 1) .nil))) .nil) .nil) (.cons (.ret (.bi .tuple1 (.cons (.bin .Add (.sl (.call 295 (.cons (.v 1) .nil)) .nil (.cons (.neg (.int 1)) .nil)) (.sl (.call 295 (.cons (.lrvd (.v 1)) .nil)) .nil (.cons (.neg (.int 1)) .nil))) .nil))) .nil))))
end DL
end
section
set_option maxRecDepth 100000
set_option maxHeartbeats 4000000
set_option exponentiation.threshold 100000
namespace DL
open PySem L2
local macro_rules | `(tactic| l_ints) => `(tactic| first | (assumption) | (apply Bd.neg; l_ints) | (apply Bd.mul <;> l_ints) | (exact bd40 (by omega) (by omega)) | (apply Bd.add <;> l_ints) | (apply Bd.sub <;> l_ints) | (exact bd130 (by omega) (by omega)) | (exact bd210 (by omega) (by omega)) | (exact bd_self _) | fail)
theorem dloop_ind {G : Nat → DSp} {jp js jv : Nat} {es ex ey : E} {Ex : Nat → En → Prop} {fin : List (Vec × D) → Prop} (P : List D → En → List (Vec × D) → Prop) (h0 : ∀ ρ acc, P [] ρ acc → jv < ρ.length ∧ fin acc)
    (h1 : ∀ d ds ρ acc, P (d :: ds) ρ acc → ∀ k : En → List (Vec × D) → Prop, (∀ ρ' acc', P ds ρ' acc' → k ρ' acc') → jp < ρ.length ∧ dBody G js es ex ey Ex (ρ.set jp (some (.d d))) acc d k) : ∀ ds ρ acc, P ds ρ acc → dLoop G jp js jv es ex ey Ex fin ds ρ acc := by
  intro ds
  induction ds with
  | nil => exact h0
  | cons d ds ih => exact fun ρ acc h => h1 d ds ρ acc h _ fun ρ' acc' h' => ih ρ' acc' h'
theorem wSs_nil' {G : Nat → DSp} {Z : DE} {ρ : En} (h : Z.nx ρ) : wSs G .nil Z ρ := h
abbrev Pt := Rat × Rat
def ptD (p : Pt) : D := PD p.1 p.2
def bot (p : Pt) : Int := (plc p.1 p.2).2.2
theorem bot_pos (p : Pt) : 0 < bot p := plc_pos p.1 p.2
def vOf (B : Int) (p : Pt) : Vec := ((plc p.1 p.2).1 * (B / bot p), (plc p.1 p.2).2.1 * (B / bot p))
def ptOf (B : Int) (v : Vec) : Pt := (Rat.divInt v.1 B, Rat.divInt v.2 B)
theorem ptOf_vOf {B : Int} {p : Pt} (h0 : 0 < B) (h : bot p ∣ B) : ptOf B (vOf B p) = p := by
  obtain ⟨c, rfl⟩ := h
  have b0 := bot_pos p
  have e : bot p * c / bot p = c := Int.mul_ediv_cancel_left _ (by omega)
  obtain ⟨e1, e2⟩ := plc_e p.1 p.2
  have c0 : c ≠ 0 := fun z => by rw [z] at h0; simp at h0
  unfold ptOf vOf
  rw [e]
  refine Prod.ext ?_ ?_
  · show Rat.divInt ((plc p.1 p.2).1 * c) (bot p * c) = p.1
    rw [Rat.divInt_mul_right c0]
    exact e1
  · show Rat.divInt ((plc p.1 p.2).2.1 * c) (bot p * c) = p.2
    rw [Rat.divInt_mul_right c0]
    exact e2
structure PtB (m : Nat) (p : Pt) : Prop where
  x : Bd m (plc p.1 p.2).1
  y : Bd m (plc p.1 p.2).2.1
  b : Bd m (bot p)
theorem dvd_lcm {b B : Int} (hb : 0 < b) (hB : 0 < B) : let q := (Rat.divInt b B).num; 0 < q ∧ b ∣ B * q ∧ B ∣ B * q ∧ q ≤ b := by
  intro q
  obtain ⟨e1, e2⟩ := low_num (a := b) (b := B) (by omega) (Int.gcd b B) (by rw [if_neg (by omega)])
  have g0 : 0 < Int.gcd b B := Int.gcd_pos_of_ne_zero_left _ (by omega)
  obtain ⟨u, hu⟩ : (Int.gcd b B : Int) ∣ b := Int.gcd_dvd_left ..
  obtain ⟨v, hv⟩ : (Int.gcd b B : Int) ∣ B := Int.gcd_dvd_right ..
  have eq : q = u := by
    show (Rat.divInt b B).num = u
    rw [← e1, Int.fdiv_eq_ediv_of_nonneg _ (by omega)]
    conv => lhs; arg 1; rw [hu]
    exact Int.mul_ediv_cancel_left _ (by omega)
  have u0 : 0 < u := by
    rcases Int.lt_trichotomy u 0 with h | h | h
    · have := Int.mul_neg_of_pos_of_neg (show (0 : Int) < Int.gcd b B by omega) h
      omega
    · rw [h] at hu; simp at hu; omega
    · exact h
  rw [eq]
  refine ⟨u0, ⟨v, ?_⟩, ⟨u, rfl⟩, ?_⟩
  · conv => rhs; rw [hu]
    conv => lhs; rw [hv]
    grind
  · have : 1 * u ≤ (Int.gcd b B : Int) * u := Int.mul_le_mul_of_nonneg_right (by omega) (by omega)
    omega
theorem putA_mem {acc : List (Vec × D)} {k : Vec} {d : D} {a : Vec × D} (h : a ∈ putA acc k d) : a ∈ acc ∨ a = (k, d) := by
  unfold putA at h
  split at h
  · obtain ⟨b, hb, e⟩ := List.mem_map.mp h
    by_cases q : b.1 = k
    · rw [if_pos q] at e
      exact .inr (by rw [← e, q])
    · rw [if_neg q] at e
      exact .inl (by rw [← e]; exact hb)
  · rcases List.mem_append.mp h with h | h
    · exact .inl h
    · exact .inr (List.mem_singleton.mp h)
theorem vals_is {acc : List (Vec × D)} {f : Vec → D} (h : ∀ a ∈ acc, a.2 = f a.1) : ∀ {L : List Vec} {vals : List D}, Paired (fun k d => valA acc k = some d) L vals → vals = L.map f
  | _, _, .nil => rfl
  | _, _, .cons (a := k) (b := d) e t => by
    rw [List.map_cons, ← vals_is h t]
    congr 1
    unfold valA at e
    cases q : acc.find? fun p => decide (p.1 = k) with
    | none => rw [q] at e; cases e
    | some a =>
      rw [q] at e
      have e1 : a.2 = d := Option.some.inj e
      have e2 : a.1 = k := by simpa using List.find?_some q
      rw [← e1, h a (List.mem_of_find?_eq_some q), e2]
def sp_places_sorted : DSp := fun ds Q X => ∃ (ps : List Pt) (m : Nat), (ds = [.tuple (ps.map ptD)] ∨ ds = [.list (ps.map ptD)]) ∧ ps.length ≤ 2000 ∧ (∀ p ∈ ps, PtB m p) ∧ 1 ≤ m ∧ m ≤ 8999 ∧ m * ps.length ≤ 400000 ∧
  ∀ (B : Int) (ws : List Vec), 0 < B → (∀ p ∈ ps, bot p ∣ B) → ws.Pairwise vLt → (∀ v, v ∈ ws ↔ v ∈ ps.map (vOf B)) → Q (.l (ws.map fun v => ptD (ptOf B v)) true)
theorem p_places_sorted {G : Nat → DSp} (g1 : G 1 = sp_lowest) : FnW G 6 1 m_places_sorted sp_places_sorted := by
  intro ds Q X ⟨ps, m, e, hl, hb, m1, m8, lm, q⟩
  have go : ∀ d : D, (d = .tuple (ps.map ptD) ∨ d = .list (ps.map ptD)) → wSs G m_places_sorted (endOf Q X) (dst 6 [d]) := fun d hd => by
    have prd : ∀ (k : Nat), k ≤ ps.length → m * k + 1 ≤ 400001 := fun k hk => by
      have := Nat.mul_le_mul_left m hk
      omega
    rcases hd with rfl | rfl
    all_goals
      conv => whnf
      refine ⟨rfl, ?_⟩
      refine forLoop_ind (fun ds ρ => ∃ (us zs : List Pt) (B : Int) (a : Option DL.R), us ++ zs = ps ∧ ds = zs.map ptD ∧ 0 < B ∧ (∀ p ∈ us, bot p ∣ B) ∧ Bd (m * us.length + 1) B ∧ ρ = [some (.d _), some (.d (.int B)), a, none, none, none]) ?_ ?_ _ _ ⟨[], ps, 1, _, rfl, rfl, by decide, by simp, by rw [show m * ([] : List Pt).length + 1 = 1 from by simp]; decide, rfl⟩
      case refine_2 =>
        rintro d ds ρ ⟨us, zs, B, a, e1, e2, B0, dv, bB, rfl⟩ nx hnx
        cases zs with
        | nil => cases e2
        | cons p zs =>
          cases e2
          have pm : p ∈ ps := by rw [← e1]; simp
          have pb := hb p pm
          have b0 := bot_pos p
          have lu : us.length + 1 ≤ ps.length := by
            have := congrArg List.length e1
            simp at this
            omega
          conv => whnf
          refine ⟨by show bot p ≠ 0; omega, fun w _ hw => ?_⟩
          have hw : w = B % bot p := hw b0
          conv => whnf
          refine wIf.mk (fun hc => ?_) (fun hc => ?_)
          · conv => whnf
            refine gC g1 ⟨bot p, B, rfl, fun _ => ?_, fun z => by omega, fun _ => ?_⟩
            · rw [Int.gcd_comm]
              exact (gcd_bd pb.b (by omega)).mono m8
            obtain ⟨q0, q1, q2, q3⟩ := dvd_lcm b0 B0
            have bq : Bd m (Rat.divInt (bot p) B).num := pb.b.le (by omega)
            conv => whnf
            refine ⟨mul_ok bB bq (by have := prd us.length (by omega); omega), ?_⟩
            conv => whnf
            refine hnx _ ⟨us ++ [p], zs, B * (Rat.divInt (bot p) B).num, _, by rw [← e1]; simp, rfl, Int.mul_pos B0 q0, fun u hu => ?_, ?_, rfl⟩
            · rcases List.mem_append.mp hu with h | h
              · exact Int.dvd_trans (dv u h) q2
              · rw [List.mem_singleton.mp h]; exact q1
            · exact (bB.mul bq).mono (by rw [List.length_append, List.length_singleton, Nat.mul_add]; omega)
          · have hc : w = 0 := by
              refine Decidable.byContradiction fun z => ?_
              rw [decide_eq_false z] at hc
              cases hc
            have hd : bot p ∣ B := Int.dvd_of_emod_eq_zero (by omega)
            refine wSs_nil' ?_
            refine hnx _ ⟨us ++ [p], zs, B, _, by rw [← e1]; simp, rfl, B0, fun u hu => ?_, bB.mono (by rw [List.length_append, List.length_singleton, Nat.mul_add]; omega), rfl⟩
            rcases List.mem_append.mp hu with h | h
            · exact dv u h
            · rw [List.mem_singleton.mp h]; exact hd
      rintro ρ ⟨us, zs, B, a, e1, e2, B0, dv, bB, rfl⟩
      have : zs = [] := by simpa using e2.symm
      subst this
      rw [List.append_nil] at e1
      subst e1
      conv => whnf
      refine ⟨Nat.le_of_ble_eq_true rfl, ?_⟩
      conv => whnf
      refine ⟨rfl, ?_⟩
      refine dloop_ind (fun ds ρ acc => ∃ (us' zs : List Pt) (x y : Option DL.R), us' ++ zs = us ∧ ds = zs.map ptD ∧ ρ = [some (.d _), some (.d (.int B)), x, none, y, none] ∧ (∀ a ∈ acc, a.2 = ptD (ptOf B a.1)) ∧ (∀ v, v ∈ acc.map (·.1) ↔ v ∈ us'.map (vOf B)) ∧ (acc.map (·.1)).Nodup ∧ acc.length ≤ us'.length) ?_ ?_ _ _ _ ⟨[], us, _, _, rfl, rfl, rfl, by simp, by simp, by simp, by simp⟩
      · rintro ρ acc ⟨us', zs, x, y, e1, e2, rfl, a1, a2, a3, a4⟩
        have : zs = [] := by simpa using e2.symm
        subst this
        rw [List.append_nil] at e1
        subst e1
        refine ⟨Nat.le_of_ble_eq_true rfl, fun L vals pm pw pr => ?_⟩
        have mem : ∀ v, v ∈ L ↔ v ∈ us'.map (vOf B) := fun v => by rw [pm.mem_iff, a2]
        have ev : vals = L.map fun v => ptD (ptOf B v) := vals_is a1 pr
        rw [ev]
        refine q B L B0 (fun p hp => dv p hp) ?_ mem
        have nd : L.Nodup := pm.nodup_iff.mpr a3
        refine List.Pairwise.imp (fun {a b} h => ?_) (pw.and nd)
        have h1 := SrtO.lexB_no.mp h.1
        have h2 : ¬ (a.1 = b.1 ∧ a.2 = b.2) := fun z => h.2 (Prod.ext z.1 z.2)
        unfold vLt
        omega
      · rintro d ds ρ acc ⟨us', zs, x, y, e1, e2, rfl, a1, a2, a3, a4⟩ k hk
        cases zs with
        | nil => cases e2
        | cons p zs =>
          cases e2
          have pm : p ∈ us := by rw [← e1]; simp
          have pb := hb p pm
          have b0 := bot_pos p
          have lu : us'.length + 1 ≤ us.length := by
            have := congrArg List.length e1
            simp at this
            omega
          refine ⟨Nat.le_of_ble_eq_true rfl, ?_⟩
          have hd : bot p ∣ B := dv p pm
          unfold dBody
          conv => whnf
          refine ⟨by show bot p ≠ 0; omega, div_ok pb.b m8, fun sh _ hsh => ?_⟩
          have hsh : sh = B / bot p := hsh b0
          have bsh : Bd (m * us.length + 1) sh := by rw [hsh]; exact ediv_bd _ bB
          have big := prd us.length (Nat.le_refl _)
          conv => whnf
          refine ⟨mul_ok pb.x bsh (by omega), ?_⟩
          conv => whnf
          refine ⟨mul_ok pb.y bsh (by omega), ?_⟩
          conv => whnf
          refine ⟨by omega, ?_⟩
          rw [show ((plc p.1 p.2).1 * sh, (plc p.1 p.2).2.1 * sh) = vOf B p from by rw [hsh]; rfl]
          refine hk _ _ ⟨us' ++ [p], zs, _, _, by rw [← e1]; simp, rfl, rfl, fun a ha => ?_, fun v => ?_, putA_nodup a3 _ _, ?_⟩
          · rcases putA_mem ha with h | h
            · exact a1 a h
            · rw [h]
              show ptD p = ptD (ptOf B (vOf B p))
              rw [ptOf_vOf B0 hd]
          · rw [putA_keys, List.map_append, List.mem_append, List.map_singleton, List.mem_singleton, ← a2]
            split
            · rename_i h
              exact ⟨fun z => .inl z, fun z => z.elim id fun e => by rw [e]; exact h⟩
            · rw [List.mem_append, List.mem_singleton]
          · have := putA_len acc (vOf B p) (ptD p)
            rw [List.length_append, List.length_singleton]
            omega
  rcases e with e | e <;> subst e
  · exact ⟨rfl, go _ (.inl rfl)⟩
  · exact ⟨rfl, go _ (.inr rfl)⟩
def stp (p q : Pt) : Vec := ((plc q.1 q.2).1 * bot p - (plc p.1 p.2).1 * bot q, (plc q.1 q.2).2.1 * bot p - (plc p.1 p.2).2.1 * bot q)
theorem stp_vb {m : Nat} {p q : Pt} (h : PtB m p) (g : PtB m q) : VB (2 * m + 1) (stp p q) := ⟨((g.x.mul h.b).sub (h.x.mul g.b)).mono (by omega), ((g.y.mul h.b).sub (h.y.mul g.b)).mono (by omega)⟩
def sp_step_between_2 : DSp := fun ds Q X => ∃ (p q : Pt) (m : Nat), ds = [ptD p, ptD q] ∧ PtB m p ∧ PtB m q ∧ m ≤ 100000 ∧ Q (.d (vD (stp p q)))
theorem p_step_between_2 {G : Nat → DSp} : FnW G 2 2 m_step_between_2 sp_step_between_2 := by
  intro ds Q X ⟨p, q', m, e, hp, hq, hm, q⟩
  subst e
  refine ⟨rfl, ?_⟩
  conv => whnf
  refine ⟨mul_ok hq.x hp.b (by omega), ?_⟩
  conv => whnf
  refine ⟨mul_ok hp.x hq.b (by omega), ?_⟩
  conv => whnf
  refine ⟨mul_ok hq.y hp.b (by omega), ?_⟩
  conv => whnf
  refine ⟨mul_ok hp.y hq.b (by omega), ?_⟩
  conv => whnf
  refine ⟨small_sz (by simp), ?_⟩
  conv => whnf
  exact q
def sp_turn_at : DSp := fun ds Q X => ∃ (a b c : Pt) (m : Nat), ds = [ptD a, ptD b, ptD c] ∧ PtB m a ∧ PtB m b ∧ PtB m c ∧ m ≤ 100000 ∧ Q (.d (.int (crs (stp a b) (stp b c))))
theorem p_turn_at {G : Nat → DSp} (g292 : G 292 = sp_step_between_2) (g32 : G 32 = sp_turn_of) : FnW G 3 3 m_turn_at sp_turn_at := by
  intro ds Q X ⟨a, b, c, m, e, ha, hb, hc, hm, q⟩
  subst e
  refine ⟨rfl, ?_⟩
  conv => whnf
  refine gC g292 ⟨a, b, m, rfl, ha, hb, hm, ?_⟩
  conv => whnf
  refine gC g292 ⟨b, c, m, rfl, hb, hc, hm, ?_⟩
  conv => whnf
  refine gC g32 ⟨_, _, 2 * m + 1, 2 * m + 1, rfl, stp_vb ha hb, stp_vb hb hc, by omega, ?_⟩
  exact q
structure OkV (B : Int) (m : Nat) (v : Vec) : Prop where
  dv : bot (ptOf B v) ∣ B
  b : PtB m (ptOf B v)
  is : vOf B (ptOf B v) = v
theorem OkV.of {B : Int} {m : Nat} {p : Pt} (B0 : 0 < B) (h : bot p ∣ B) (g : PtB m p) : OkV B m (vOf B p) := by
  have e := ptOf_vOf B0 h
  exact ⟨by rw [e]; exact h, by rw [e]; exact g, by rw [e]⟩
theorem stp_sb {B : Int} {m : Nat} {u v : Vec} (B0 : 0 < B) (h : OkV B m u) (g : OkV B m v) : ∃ c : Int, 0 < c ∧ (stp (ptOf B u) (ptOf B v)).1 * c = B * (sb u v).1 ∧ (stp (ptOf B u) (ptOf B v)).2 * c = B * (sb u v).2 := by
  obtain ⟨cu, eu⟩ := h.dv
  obtain ⟨cv, ev⟩ := g.dv
  have bu := bot_pos (ptOf B u)
  have bv := bot_pos (ptOf B v)
  have qu : B / bot (ptOf B u) = cu := by conv => lhs; arg 1; rw [eu]
                                          exact Int.mul_ediv_cancel_left _ (by omega)
  have qv : B / bot (ptOf B v) = cv := by conv => lhs; arg 1; rw [ev]
                                          exact Int.mul_ediv_cancel_left _ (by omega)
  have iu := h.is
  have iv := g.is
  unfold vOf at iu iv
  rw [qu] at iu
  rw [qv] at iv
  have pos : ∀ b c : Int, 0 < b → B = b * c → 0 < c := fun b c hb e => by
    rcases Int.lt_trichotomy c 0 with z | z | z
    · have := Int.mul_neg_of_pos_of_neg hb z; omega
    · rw [z] at e; simp at e; omega
    · exact z
  have cu0 := pos _ _ bu eu
  have cv0 := pos _ _ bv ev
  have u1 := congrArg Prod.fst iu
  have u2 := congrArg Prod.snd iu
  have v1 := congrArg Prod.fst iv
  have v2 := congrArg Prod.snd iv
  dsimp only at u1 u2 v1 v2
  refine ⟨cu * cv, Int.mul_pos cu0 cv0, ?_, ?_⟩
  · unfold stp sb
    dsimp only
    grind
  · unfold stp sb
    dsimp only
    grind
theorem turn_pt {B : Int} {m : Nat} {u v w : Vec} (B0 : 0 < B) (hu : OkV B m u) (hv : OkV B m v) (hw : OkV B m w) : crs (stp (ptOf B u) (ptOf B v)) (stp (ptOf B v) (ptOf B w)) ≤ 0 ↔ tn u v w ≤ 0 := by
  obtain ⟨c, c0, e1, e2⟩ := stp_sb B0 hu hv
  obtain ⟨d, d0, f1, f2⟩ := stp_sb B0 hv hw
  unfold tn
  generalize stp (ptOf B u) (ptOf B v) = s at *
  generalize stp (ptOf B v) (ptOf B w) = t at *
  have key : crs s t * (c * d) = B * B * crs (sb u v) (sb v w) := by
    unfold crs
    grind
  have cd : 0 < c * d := Int.mul_pos c0 d0
  have bb : 0 < B * B := Int.mul_pos B0 B0
  constructor
  · intro h
    refine Decidable.byContradiction fun z => ?_
    have h1 := Int.mul_pos bb (show 0 < crs (sb u v) (sb v w) by omega)
    have h2 := Int.mul_le_mul_of_nonneg_right h (show 0 ≤ c * d by omega)
    rw [Int.zero_mul] at h2
    omega
  · intro h
    refine Decidable.byContradiction fun z => ?_
    have h1 := Int.mul_pos (show 0 < crs s t by omega) cd
    have h2 := Int.mul_le_mul_of_nonneg_left h (show 0 ≤ B * B by omega)
    rw [Int.mul_zero] at h2
    omega
def pv (B : Int) (v : Vec) : D := ptD (ptOf B v)
def sp_outer_half : DSp := fun ds Q X => ∃ (row : List Vec) (B : Int) (k : Nat), ds = [.list (row.map (pv B))] ∧ row.length ≤ 90000 ∧ 0 < B ∧ (∀ v ∈ row, OkV B k v) ∧ k ≤ 100000 ∧ Q (.d (.list ((halfF row).map (pv B))))
theorem p_outer_half {G : Nat → DSp} (g293 : G 293 = sp_turn_at) : FnW G 3 1 m_outer_half sp_outer_half := by
  intro ds Q X ⟨row, B, k, e, hl, B0, hv, hk, q⟩
  subst e
  refine ⟨rfl, ?_⟩
  ((conv => whnf); repeat' (first | (refine wIf_tt ?_; conv => whnf) | (refine wIf_ff ?_; conv => whnf) | (refine wIf.mk (fun hif => (have hif := of_decide_eq_true hif; ?_)) (fun hif => (have hif := of_decide_eq_false hif; ?_)) <;> (conv => whnf)) | (refine wIf_not ?_) | (refine ⟨(by decide : (_ : Int) ≠ 0), fun w _ hw => ?_⟩; replace hw := hw (by decide); conv => whnf) | (refine ⟨(by decide : (_ : Int) ≠ 0), div_lit (by decide), fun w _ hw => ?_⟩; replace hw := hw (by decide); conv => whnf) | (refine eq_rD ?_; conv => whnf) | (refine eq_ts ?_; conv => whnf) | (refine ne_ts ?_; conv => whnf) | (refine ne_rD ?_; conv => whnf) | (refine eq_vD ?_; conv => whnf) | (refine ne_vD ?_; conv => whnf) | (refine ⟨isi_ok rfl, ?_⟩; conv => whnf) | (apply wMulS.mk; (first | exact mul_l (by decide) (by decide) | exact mul_r (by decide) (by decide) | exact mul_ok (by l_ints) (by l_ints) (by decide)); conv => whnf) | (refine ⟨⟨by decide, by decide, by decide⟩, ?_⟩; conv => whnf) | (refine ⟨⟨by decide, by decide, by omega⟩, ?_⟩; conv => whnf) | (refine ⟨small_sz (Nat.le_of_ble_eq_true rfl), ?_⟩; conv => whnf) | fail))
  refine ⟨rfl, ?_⟩
  refine forLoop_ind (fun ds ρ => ∃ (zs S : List Vec) (x : Option DL.R), ds = zs.map (pv B) ∧ (stk S zs).reverse = halfF row ∧ S.length + zs.length ≤ row.length ∧ (∀ v ∈ S, OkV B k v) ∧ (∀ v ∈ zs, OkV B k v) ∧ ρ = [some (.d (.list (row.map (pv B)))), some (.l (S.reverse.map (pv B)) true), x]) ?_ ?_ _ _ ⟨row, [], none, rfl, rfl, by simp, by simp, hv, rfl⟩
  · rintro ρ ⟨zs, S, x, e1, e2, e3, e4, e5, rfl⟩
    have : zs = [] := by simpa using e1.symm
    subst this
    conv => whnf
    have e2 : S.reverse = halfF row := e2
    rw [e2]
    exact q
  rintro d ds ρ ⟨zs, S, x, e1, e2, e3, e4, e5, rfl⟩ nx hnx
  cases zs with
  | nil => cases e1
  | cons v zs =>
    cases e1
    have bv := e5 v List.mem_cons_self
    have go : ∀ S' : List Vec, popF v S' = popF v S → S'.length ≤ S.length → (∀ v ∈ S', OkV B k v) → popF v S' = S' → nx [some (.d (.list (row.map (pv B)))), some (.l (S'.reverse.map (pv B) ++ [pv B v]) true), some (.d (pv B v))] := fun S' h1 h2 h3 h4 =>
      hnx _ ⟨zs, v :: S', some (.d (pv B v)), rfl, by rw [← e2]; show _ = (stk (v :: popF v S) zs).reverse; rw [← h1, h4], by simp at e3 ⊢; omega, fun u hu => by
        rcases List.mem_cons.mp hu with e | hu
        · rw [e]; exact bv
        · exact h3 u hu, fun u hu => e5 u (List.mem_cons_of_mem _ hu), by simp⟩
    conv => whnf
    refine ⟨fun n ρ => ∃ S' : List Vec, n = S'.length ∧ popF v S' = popF v S ∧ S'.length ≤ S.length ∧ (∀ v ∈ S', OkV B k v) ∧ ρ = [some (.d (.list (row.map (pv B)))), some (.l (S'.reverse.map (pv B)) true), some (.d (pv B v))], ⟨_, S, rfl, rfl, Nat.le_refl _, e4, rfl⟩, ?_⟩
    rintro n ρ ⟨S', rfl, h1, h2, h3, rfl⟩
    have fin : popF v S' = S' → nx [some (.d (.list (row.map (pv B)))), some (.l (S'.reverse.map (pv B) ++ [pv B v]) true), some (.d (pv B v))] := go S' h1 h2 h3
    have small : (S'.reverse.map (pv B)).length < sizeLine := small_lt (by simp at e3 ⊢; omega)
    conv => whnf
    refine wIf.mk (fun hc => ?_) (fun hc => ?_)
    case refine_2 =>
      have hc := of_decide_eq_false hc
      conv => whnf
      refine wIf_ff ?_
      conv => whnf
      refine ⟨small, ?_⟩
      conv => whnf
      refine fin ?_
      match S' with
      | [] => rfl
      | [b] => rfl
      | b :: a :: r => simp at hc; omega
    have hc := of_decide_eq_true hc
    match S', hc with
    | [], hc => simp at hc
    | [b], hc => simp at hc
    | b :: a :: r, _ =>
      conv => whnf
      rw [atI_top2]
      conv => whnf
      rw [atI_top]
      conv => whnf
      have ba := h3 a (by simp)
      have bb := h3 b (by simp)
      refine gC g293 ⟨ptOf B a, ptOf B b, ptOf B v, k, rfl, ba.b, bb.b, bv.b, hk, ?_⟩
      conv => whnf
      refine wIf.mk (fun ht => ?_) (fun ht => ?_)
      · have ht : tn a b v ≤ 0 := (turn_pt B0 ba bb bv).mp (of_decide_eq_true ht)
        conv => whnf
        refine ⟨by simp, ?_⟩
        conv => whnf
        refine ⟨_, ?_, a :: r, rfl, ?_, ?_, fun u hu => h3 u (List.mem_cons_of_mem _ hu), ?_⟩
        · simp
        · rw [← h1]
          conv => rhs; unfold popF
          rw [if_pos ht]
        · simp at h2 ⊢
          omega
        · simp
      · have ht : ¬ tn a b v ≤ 0 := fun z => of_decide_eq_false ht ((turn_pt B0 ba bb bv).mpr z)
        conv => whnf
        refine ⟨small, ?_⟩
        conv => whnf
        refine fin ?_
        unfold popF
        rw [if_neg ht]
def sp_area_of : DSp := fun ds Q X => ∃ (ps : List Pt) (m : Nat), (ds = [.tuple (ps.map ptD)] ∨ ds = [.list (ps.map ptD)]) ∧ ps.length ≤ 2000 ∧ (∀ p ∈ ps, PtB m p) ∧ 1 ≤ m ∧ m ≤ 8999 ∧ m * ps.length ≤ 400000 ∧
  ∀ B : Int, 0 < B → (∀ p ∈ ps, bot p ∣ B) → Q (.d (.tuple ((hull (ps.map (vOf B))).map (pv B))))
theorem p_area_of {G : Nat → DSp} (g294 : G 294 = sp_places_sorted) (g295 : G 295 = sp_outer_half) : FnW G 2 1 m_area_of sp_area_of := by
  intro ds Q X ⟨ps, m, e, hl, hb, m1, m8, lm, q⟩
  have go : ∀ d : D, (d = .tuple (ps.map ptD) ∨ d = .list (ps.map ptD)) → wSs G m_area_of (endOf Q X) (dst 2 [d]) := fun d hd => by
    conv => whnf
    refine gC g294 ⟨ps, m, by rcases hd with h | h <;> rw [h] <;> simp, hl, hb, m1, m8, lm, fun B ws B0 dv pw mem => ?_⟩
    have e := srtV_eq pw mem
    have len : ws.length ≤ 2000 := by rw [e]; exact Nat.le_trans (srtV_len _) (by rw [List.length_map]; exact hl)
    have ok : ∀ v ∈ ws, OkV B m v := fun v h => by
      obtain ⟨p, hp, rfl⟩ := List.mem_map.mp ((mem v).mp h)
      exact OkV.of B0 (dv p hp) (hb p hp)
    have q : Q (.d (.tuple ((hullW ws).map (pv B)))) := by rw [e]; exact q B B0 dv
    have hm : (ws.map fun v => ptD (ptOf B v)) = ws.map (pv B) := rfl
    rw [hm]
    conv => whnf
    refine wIf.mk (fun hc => ?_) (fun hc => ?_)
    · have hc := of_decide_eq_true hc
      have eh : hullW ws = ws := by
        match ws, hc with
        | [], _ => rfl
        | [a], _ => rfl
        | [a, b], _ => rfl
        | a :: b :: c :: r, hc => simp at hc; omega
      rw [eh] at q
      conv => whnf
      exact q
    · have hc := of_decide_eq_false hc
      have h1 : ¬ ws.length = 1 := by simp at hc; omega
      unfold hullW at q
      rw [if_neg h1] at q
      conv => whnf
      refine gC g295 ⟨ws, B, m, rfl, by omega, B0, ok, by omega, ?_⟩
      conv => whnf
      refine gC g295 ⟨ws.reverse, B, m, by rw [List.map_reverse], by simp; omega, B0, fun v h => ok v (List.mem_reverse.mp h), by omega, ?_⟩
      conv => whnf
      rw [cut_init, cut_init]
      have l1 := half_len ws
      have l2 := half_len ws.reverse
      rw [List.length_reverse] at l2
      refine ⟨small_sz (by simp; omega), ?_⟩
      conv => whnf
      rw [List.map_append, List.map_dropLast, List.map_dropLast] at q
      exact q
  rcases e with e | e <;> subst e
  · exact ⟨rfl, go _ (.inl rfl)⟩
  · exact ⟨rfl, go _ (.inr rfl)⟩
end DL
end
section
set_option maxRecDepth 100000
set_option maxHeartbeats 4000000
namespace DL
open PySem L2
def sc (c : Int) (v : Vec) : Vec := (c * v.1, c * v.2)
theorem tn_sc (c : Int) (a b v : Vec) : tn (sc c a) (sc c b) (sc c v) = c * c * tn a b v := by
  unfold tn crs sb sc
  grind
theorem tn_sc_le {c : Int} (h : 0 < c) (a b v : Vec) : tn (sc c a) (sc c b) (sc c v) ≤ 0 ↔ tn a b v ≤ 0 := by
  rw [tn_sc]
  have cc : 0 < c * c := Int.mul_pos h h
  constructor
  · intro g
    refine Decidable.byContradiction fun z => ?_
    have := Int.mul_pos cc (show 0 < tn a b v by omega)
    omega
  · intro g
    have := Int.mul_le_mul_of_nonneg_left g (show 0 ≤ c * c by omega)
    rw [Int.mul_zero] at this
    exact this
theorem popF_sc {c : Int} (h : 0 < c) (v : Vec) : ∀ S : List Vec, popF (sc c v) (S.map (sc c)) = (popF v S).map (sc c)
  | [] => rfl
  | [b] => rfl
  | b :: a :: r => by
    rw [List.map_cons, List.map_cons]
    unfold popF
    by_cases q : tn a b v ≤ 0
    · rw [if_pos q, if_pos ((tn_sc_le h a b v).mpr q)]
      exact popF_sc h v (a :: r)
    · rw [if_neg q, if_neg fun z => q ((tn_sc_le h a b v).mp z)]
      rfl
theorem stk_sc {c : Int} (h : 0 < c) : ∀ (row S : List Vec), stk (S.map (sc c)) (row.map (sc c)) = (stk S row).map (sc c)
  | [], S => rfl
  | v :: row, S => by
    show stk (sc c v :: popF (sc c v) (S.map (sc c))) (row.map (sc c)) = (stk (v :: popF v S) row).map (sc c)
    rw [popF_sc h, ← stk_sc h row (v :: popF v S)]
    rfl
theorem halfF_sc {c : Int} (h : 0 < c) (row : List Vec) : halfF (row.map (sc c)) = (halfF row).map (sc c) := by
  unfold halfF
  have e := stk_sc h row []
  rw [List.map_nil] at e
  rw [e, List.map_reverse]
theorem hullW_sc {c : Int} (h : 0 < c) (ws : List Vec) : hullW (ws.map (sc c)) = (hullW ws).map (sc c) := by
  unfold hullW
  rw [List.length_map, ← List.map_reverse, halfF_sc h, halfF_sc h]
  split
  · rfl
  · rw [List.map_append, List.map_dropLast, List.map_dropLast]
theorem vLt_sc {c : Int} (h : 0 < c) {u v : Vec} (g : vLt u v) : vLt (sc c u) (sc c v) := by
  unfold vLt sc at *
  dsimp only
  rcases g with g | ⟨g, g'⟩
  · exact .inl (Int.mul_lt_mul_of_pos_left g h)
  · exact .inr ⟨by rw [g], Int.mul_lt_mul_of_pos_left g' h⟩
theorem hull_sc {c : Int} (h : 0 < c) (vs : List Vec) : hull (vs.map (sc c)) = (hull vs).map (sc c) := by
  unfold hull
  rw [← hullW_sc h]
  congr 1
  refine (srtV_eq ?_ fun v => ?_).symm
  · rw [List.pairwise_map]
    exact (pw_srtV vs).imp fun g => vLt_sc h g
  · rw [List.mem_map, List.mem_map]
    exact ⟨fun ⟨a, h1, h2⟩ => ⟨a, mem_srtV.mp h1, h2⟩, fun ⟨a, h1, h2⟩ => ⟨a, mem_srtV.mpr h1, h2⟩⟩
theorem vOf_sc {B c : Int} {p : Pt} (h : bot p ∣ B) : vOf (c * B) p = sc c (vOf B p) := by
  obtain ⟨d, rfl⟩ := h
  have b0 := bot_pos p
  unfold vOf sc
  rw [show c * (bot p * d) = bot p * (c * d) by grind, Int.mul_ediv_cancel_left _ (by omega), Int.mul_ediv_cancel_left _ (by omega)]
  refine Prod.ext ?_ ?_ <;> dsimp only <;> grind
theorem pv_sc {B c : Int} (B0 : 0 < B) (c0 : 0 < c) (v : Vec) : pv (c * B) (sc c v) = pv B v := by
  unfold pv ptOf sc
  have e : ∀ x : Int, Rat.divInt (c * x) (c * B) = Rat.divInt x B := fun x => Rat.divInt_mul_left (by omega)
  dsimp only
  rw [e, e]
def crnP (ps : List Pt) (B : Int) : List D := (hull (ps.map (vOf B))).map (pv B)
theorem crnP_mul {ps : List Pt} {B c : Int} (B0 : 0 < B) (c0 : 0 < c) (dv : ∀ p ∈ ps, bot p ∣ B) : crnP ps (c * B) = crnP ps B := by
  unfold crnP
  have e : ps.map (vOf (c * B)) = (ps.map (vOf B)).map (sc c) := by
    rw [List.map_map]
    exact List.map_congr_left fun p hp => vOf_sc (dv p hp)
  rw [e, hull_sc c0, List.map_map]
  exact List.map_congr_left fun v _ => pv_sc B0 c0 v
theorem crnP_any {ps : List Pt} {B C : Int} (B0 : 0 < B) (C0 : 0 < C) (h : ∀ p ∈ ps, bot p ∣ B) (g : ∀ p ∈ ps, bot p ∣ C) : crnP ps B = crnP ps C := by
  rw [← crnP_mul B0 C0 h, Int.mul_comm, crnP_mul C0 B0 g]
end DL
end
section
set_option maxRecDepth 100000
set_option maxHeartbeats 4000000
set_option exponentiation.threshold 100000
namespace DL
open PySem L2
theorem PtB.mono {m n : Nat} {p : Pt} (h : PtB m p) (l : m ≤ n) : PtB n p := ⟨h.x.mono l, h.y.mono l, h.b.mono l⟩
theorem OkV.mono {B : Int} {m n : Nat} {v : Vec} (h : OkV B m v) (l : m ≤ n) : OkV B n v := ⟨h.dv, h.b.mono l, h.is⟩
theorem pos_sgn {A x : Int} (h : 0 < A) : 0 ≤ A * x ↔ 0 ≤ x := by
  constructor
  · intro g
    refine Decidable.byContradiction fun z => ?_
    have := Int.mul_neg_of_pos_of_neg h (show x < 0 by omega)
    omega
  · intro g
    exact Int.mul_nonneg (by omega) g
structure Mx (S : List Vec) (v : Vec) : Prop where
  ex : ∃ (u w : Vec) (s t : Int), u ∈ S ∧ w ∈ S ∧ 0 ≤ s ∧ 0 ≤ t ∧ 0 < s + t ∧ (s + t) * v.1 = s * u.1 + t * w.1 ∧ (s + t) * v.2 = s * u.2 + t * w.2
theorem Mx.of {S : List Vec} {v : Vec} (h : v ∈ S) : Mx S v := ⟨v, v, 1, 0, h, h, by decide, by decide, by decide, by omega, by omega⟩
theorem lin_nn {s t x a b : Int} (s0 : 0 ≤ s) (t0 : 0 ≤ t) (st : 0 < s + t) (e : (s + t) * x = s * a + t * b) (ha : 0 ≤ a) (hb : 0 ≤ b) : 0 ≤ x := by
  refine (pos_sgn st).mp ?_
  rw [e]
  have := Int.mul_nonneg s0 ha
  have := Int.mul_nonneg t0 hb
  omega
theorem Mx.cr {S : List Vec} {v A B : Vec} (h : Mx S v) (g : ∀ p ∈ S, 0 ≤ crs (sb A B) (sb A p)) : 0 ≤ DL.crs (sb A B) (sb A v) := by
  obtain ⟨u, w, s, t, hu, hw, s0, t0, st, e1, e2⟩ := h
  refine lin_nn s0 t0 st ?_ (g u hu) (g w hw)
  have d1 : (s + t) * (v.1 - A.1) = s * (u.1 - A.1) + t * (w.1 - A.1) := by grind
  have d2 : (s + t) * (v.2 - A.2) = s * (u.2 - A.2) + t * (w.2 - A.2) := by grind
  unfold DL.crs sb
  dsimp only
  generalize v.1 - A.1 = x1 at *
  generalize v.2 - A.2 = x2 at *
  grind
theorem Mx.dt {S : List Vec} {v A B : Vec} (h : Mx S v) (g : ∀ p ∈ S, 0 ≤ dot (sb A B) (sb A p)) : 0 ≤ DL.dot (sb A B) (sb A v) := by
  obtain ⟨u, w, s, t, hu, hw, s0, t0, st, e1, e2⟩ := h
  refine lin_nn s0 t0 st ?_ (g u hu) (g w hw)
  have d1 : (s + t) * (v.1 - A.1) = s * (u.1 - A.1) + t * (w.1 - A.1) := by grind
  have d2 : (s + t) * (v.2 - A.2) = s * (u.2 - A.2) + t * (w.2 - A.2) := by grind
  unfold DL.dot sb
  dsimp only
  generalize v.1 - A.1 = x1 at *
  generalize v.2 - A.2 = x2 at *
  grind
end DL
end
section
namespace DL
end DL
end
section
namespace DL
end DL
end
section
namespace DL
end DL
end
section
namespace DL
end DL
end
section
set_option maxRecDepth 100000
set_option maxHeartbeats 4000000
set_option exponentiation.threshold 100000
namespace DL
open PySem L2
local macro_rules | `(tactic| l_ints) => `(tactic| first | (assumption) | (apply Bd.neg; l_ints) | (apply Bd.mul <;> l_ints) | (exact bd40 (by omega) (by omega)) | (apply Bd.add <;> l_ints) | (apply Bd.sub <;> l_ints) | (exact bd130 (by omega) (by omega)) | (exact bd210 (by omega) (by omega)) | (exact bd_self _) | fail)
theorem IsFar.ex (b : Vec) : ∀ {vs : List Vec}, vs ≠ [] → ∃ m, IsFar vs b m := by
  intro vs
  induction vs with
  | nil => exact fun h => (h rfl).elim
  | cons v vs ih =>
    intro _
    by_cases h : vs = []
    · subst h
      exact ⟨dot v b, ⟨v, by simp, rfl⟩, by simp⟩
    · obtain ⟨m, ⟨u, h1, h2⟩, h3⟩ := ih h
      by_cases c : m ≤ dot v b
      · exact ⟨dot v b, ⟨v, by simp, rfl⟩, fun w hw => by
          rcases List.mem_cons.mp hw with e | e
          · rw [e]; exact Int.le_refl _
          · exact Int.le_trans (h3 w e) c⟩
      · exact ⟨m, ⟨u, by simp [h1], h2⟩, fun w hw => by
          rcases List.mem_cons.mp hw with e | e
          · rw [e]; omega
          · exact h3 w e⟩
open Classical in
noncomputable def mx (vs : List Vec) (b : Vec) : Int := if h : ∃ m, IsFar vs b m then Classical.choose h else 0
noncomputable def lead (b : Vec) (w : Wt) : Int := mx w.1 b + dot b w.2
noncomputable def leads (b : Vec) (ws : List Wt) : Int := (ws.map (lead b)).sum
end DL
end
section
namespace DL
end DL
end
section
namespace DL
end DL
end
section
namespace DL
def m_law_mixed : Ss := (.cons (.set 2 (.bin .Mod (.bin .Add (.bin .Add (.bin .Mult (.bin .Mod (.v 0) (.int 2147483647)) (.int 48271)) (.bin .Mult (.int 977) (.v 1))) (.int 11)) (.int 2147483647))) (.cons (.ret (.bin .FloorDiv (.bin .Mod (.bin .Mult (.v 2) (.v 2)) (.int 2147483647)) (.int 7))) .nil))
end DL
end
section
namespace DL
end DL
end
section
namespace DL
end DL
end
section
namespace DL
def m_law_digit : Ss := (.cons (.set 2 (.bin .Mod (.v 0) (.bin .Add (.bin .Mult (.int 2) (.v 1)) (.int 1)))) (.cons (.ret (.bin .Mult (.bin .FloorDiv (.bin .Add (.v 2) (.int 1)) (.int 2)) (.bin .Sub (.int 1) (.bin .Mult (.int 2) (.bin .Mod (.v 2) (.int 2)))))) .nil))
end DL
end
section
namespace DL
end DL
end
section
namespace DL
end DL
end
section
set_option maxRecDepth 100000
set_option maxHeartbeats 4000000
set_option exponentiation.threshold 100000
namespace DL
open PySem L2
local macro_rules | `(tactic| l_ints) => `(tactic| first | (assumption) | (apply Bd.neg; l_ints) | (apply Bd.mul <;> l_ints) | (exact bd40 (by omega) (by omega)) | (apply Bd.add <;> l_ints) | (apply Bd.sub <;> l_ints) | (exact bd130 (by omega) (by omega)) | (exact bd210 (by omega) (by omega)) | (exact bd_self _) | fail)
def sp_law_mixed : DSp := fun ds Q X => ∃ (c k : Int), ds = [.int c, .int k] ∧ 0 ≤ k ∧ k ≤ 1000000 ∧ ∀ z : Int, 0 ≤ z → z ≤ 306783378 → Q (.d (.int z))
theorem p_law_mixed {G : Nat → DSp} : FnW G 3 2 m_law_mixed sp_law_mixed := by
  intro ds Q X ⟨c, k, e, h1, h2, q⟩
  subst e
  refine ⟨rfl, ?_⟩
  ((conv => whnf); repeat' (first | (refine wIf_tt ?_; conv => whnf) | (refine wIf_ff ?_; conv => whnf) | (refine wIf.mk (fun hif => (have hif := of_decide_eq_true hif; ?_)) (fun hif => (have hif := of_decide_eq_false hif; ?_)) <;> (conv => whnf)) | (refine wIf_not ?_) | (refine ⟨(by decide : (_ : Int) ≠ 0), fun w _ hw => ?_⟩; replace hw := hw (by decide); conv => whnf) | (refine ⟨(by decide : (_ : Int) ≠ 0), div_lit (by decide), fun w _ hw => ?_⟩; replace hw := hw (by decide); conv => whnf) | (refine eq_rD ?_; conv => whnf) | (refine eq_ts ?_; conv => whnf) | (refine ne_ts ?_; conv => whnf) | (refine ne_rD ?_; conv => whnf) | (refine eq_vD ?_; conv => whnf) | (refine ne_vD ?_; conv => whnf) | (refine ⟨isi_ok rfl, ?_⟩; conv => whnf) | (apply wMulS.mk; (first | exact mul_l (by decide) (by decide) | exact mul_r (by decide) (by decide) | exact mul_ok (by l_ints) (by l_ints) (by decide)); conv => whnf) | (refine ⟨⟨by decide, by decide, by decide⟩, ?_⟩; conv => whnf) | (refine ⟨⟨by decide, by decide, by omega⟩, ?_⟩; conv => whnf) | (refine ⟨small_sz (Nat.le_of_ble_eq_true rfl), ?_⟩; conv => whnf) | fail))
  exact q _ (by omega) (by omega)
end DL
end
section
namespace DL
end DL
end
section
set_option maxRecDepth 100000
set_option maxHeartbeats 4000000
set_option exponentiation.threshold 100000
namespace DL
open PySem L2
local macro_rules | `(tactic| l_ints) => `(tactic| first | (assumption) | (apply Bd.neg; l_ints) | (apply Bd.mul <;> l_ints) | (exact bd40 (by omega) (by omega)) | (apply Bd.add <;> l_ints) | (apply Bd.sub <;> l_ints) | (exact bd130 (by omega) (by omega)) | (exact bd210 (by omega) (by omega)) | (exact bd_self _) | fail)
end DL
end
section
namespace DL
end DL
end
section
namespace DL
end DL
end
section
namespace DL
end DL
end
section
namespace DL
end DL
end
section
set_option maxRecDepth 100000
set_option maxHeartbeats 4000000
set_option exponentiation.threshold 100000
namespace DL
open PySem L2
local macro_rules | `(tactic| l_ints) => `(tactic| first | (assumption) | (apply Bd.neg; l_ints) | (apply Bd.mul <;> l_ints) | (exact bd40 (by omega) (by omega)) | (apply Bd.add <;> l_ints) | (apply Bd.sub <;> l_ints) | (exact bd130 (by omega) (by omega)) | (exact bd210 (by omega) (by omega)) | (exact bd_self _) | fail)
end DL
end
section
namespace DL
def m_law_whole_2 : Ss := (.cons (.ret (.and (.isi (.v 0) "int") (.not (.isi (.v 0) "bool")))) .nil)
end DL
end
section
namespace DL
end DL
end
section
set_option maxRecDepth 100000
set_option maxHeartbeats 4000000
namespace DL
open PySem L2
local macro_rules | `(tactic| l_ints) => `(tactic| first | (assumption) | (apply Bd.neg; l_ints) | (apply Bd.mul <;> l_ints) | (exact bd40 (by omega) (by omega)) | (apply Bd.add <;> l_ints) | (apply Bd.sub <;> l_ints) | (exact bd130 (by omega) (by omega)) | (exact bd210 (by omega) (by omega)) | (exact bd_self _) | fail)
def sp_law_whole_2 : DSp := fun ds Q X => ∃ (n : Int), ds = [.int n] ∧ Q (.d (.bool true))
theorem p_law_whole_2 {G : Nat → DSp} : FnW G 1 1 m_law_whole_2 sp_law_whole_2 := by
  intro ds Q X ⟨n, e, q⟩
  subst e
  refine ⟨rfl, ?_⟩
  ((conv => whnf); repeat' (first | (refine ⟨isi_ok rfl, ?_⟩; conv => whnf) | (refine wIf_tt ?_; conv => whnf) | (refine wIf_ff ?_; conv => whnf) | (refine wIf.mk (fun hif => (have hif := of_decide_eq_true hif; ?_)) (fun hif => (have hif := of_decide_eq_false hif; ?_)) <;> (conv => whnf)) | (refine wIf_not ?_) | (refine ⟨(by decide : (_ : Int) ≠ 0), fun w _ hw => ?_⟩; replace hw := hw (by decide); conv => whnf) | (refine ⟨(by decide : (_ : Int) ≠ 0), div_lit (by decide), fun w _ hw => ?_⟩; replace hw := hw (by decide); conv => whnf) | (refine eq_rD ?_; conv => whnf) | (refine eq_ts ?_; conv => whnf) | (refine ne_ts ?_; conv => whnf) | (refine ne_rD ?_; conv => whnf) | (refine eq_vD ?_; conv => whnf) | (refine ne_vD ?_; conv => whnf) | (refine ⟨isi_ok rfl, ?_⟩; conv => whnf) | (apply wMulS.mk; (first | exact mul_l (by decide) (by decide) | exact mul_r (by decide) (by decide) | exact mul_ok (by l_ints) (by l_ints) (by decide)); conv => whnf) | (refine ⟨⟨by decide, by decide, by decide⟩, ?_⟩; conv => whnf) | (refine ⟨⟨by decide, by decide, by omega⟩, ?_⟩; conv => whnf) | (refine ⟨small_sz (Nat.le_of_ble_eq_true rfl), ?_⟩; conv => whnf) | fail))
  exact q
end DL
end
section
namespace DL
def m_law_measure_2 : Ss := (.cons (.set 0 (.bi .abs (.cons (.v 0) .nil))) (.cons (.set 1 (.bi .abs (.cons (.v 1) .nil))) (.cons (.whl (.cmp .Gt (.v 1) (.int 0)) (.cons (.set 2 (.bin .Mod (.v 0) (.v 1))) (.cons (.set 0 (.v 1)) (.cons (.set 1 (.v 2)) .nil)))) (.cons (.ret (.v 0)) .nil))))
end DL
end
section
namespace DL
def m_law_lowest_3 : Ss := (.cons (.set 3 (.call 135 (.cons (.call 135 (.cons (.v 0) (.cons (.v 1) .nil))) (.cons (.v 2) .nil)))) (.cons (.ret (.tup (.cons (.bin .FloorDiv (.v 0) (.v 3)) (.cons (.bin .FloorDiv (.v 1) (.v 3)) (.cons (.bin .FloorDiv (.v 2) (.v 3)) .nil))))) .nil))
end DL
end
section
namespace DL
end DL
end
section
namespace DL
end DL
end
section
namespace DL
end DL
end
section
namespace DL
end DL
end
section
namespace DL
end DL
end
section
namespace DL
end DL
end
section
namespace DL
end DL
end
section
namespace DL
end DL
end
section
set_option maxRecDepth 100000
set_option maxHeartbeats 4000000
set_option exponentiation.threshold 100000
namespace DL
open PySem L2
local macro_rules | `(tactic| l_ints) => `(tactic| first | (assumption) | (apply Bd.neg; l_ints) | (apply Bd.mul <;> l_ints) | (exact bd40 (by omega) (by omega)) | (apply Bd.add <;> l_ints) | (apply Bd.sub <;> l_ints) | (exact bd130 (by omega) (by omega)) | (exact bd210 (by omega) (by omega)) | (exact bd_self _) | fail)
def c3 (v : Vec) : D := .tuple [.int v.1, .int v.2, .int 1]
def sp_law_measure_2 : DSp := sp_law_measure
theorem p_law_measure_2 {G : Nat → DSp} : FnW G 3 2 m_law_measure_2 sp_law_measure_2 := by
  intro ds Q X ⟨a, b, e, q⟩
  subst e
  refine ⟨rfl, ?_⟩
  conv => whnf
  refine ⟨fun n ρ => ∃ (x y : Int) (z : Option DL.R), ρ = [some (.d (.int x)), some (.d (.int y)), z] ∧ n = y.toNat ∧ 0 ≤ x ∧ 0 ≤ y ∧ Int.gcd x y = Int.gcd a b, ⟨_, _, _, _, rfl, rfl, by split <;> omega, by split <;> omega, by rw [abs_if, abs_if]; simp [Int.gcd]⟩, ?_⟩
  rintro n ρ ⟨x, y, z, rfl, rfl, hx, hy, hg⟩
  conv => whnf
  refine ⟨fun h => ?_, fun h => ?_⟩
  · have h : 0 < y := by simpa using h
    conv => whnf
    refine ⟨by omega, fun q hq hq' => ?_⟩
    conv => whnf
    subst hq
    have h1 := Int.fmod_nonneg_of_pos x h
    have h2 := Int.fmod_lt_of_pos x h
    refine ⟨_, by omega, _, _, _, rfl, rfl, hy, h1, ?_⟩
    rw [gcd_step x y h]
    exact hg
  · have h : y = 0 := by
      have : ¬ 0 < y := by simpa using h
      omega
    subst h
    conv => whnf
    have e : x = (Int.gcd a b : Int) := by rw [← hg]; simp; omega
    rw [e]
    exact q
end DL
end
section
set_option maxRecDepth 100000
set_option maxHeartbeats 4000000
set_option exponentiation.threshold 100000
namespace DL
open PySem L2
local macro_rules | `(tactic| l_ints) => `(tactic| first | (assumption) | (apply Bd.neg; l_ints) | (apply Bd.mul <;> l_ints) | (exact bd40 (by omega) (by omega)) | (apply Bd.add <;> l_ints) | (apply Bd.sub <;> l_ints) | (exact bd130 (by omega) (by omega)) | (exact bd210 (by omega) (by omega)) | (exact bd_self _) | fail)
theorem eqv_pt (p q : Pt) : PyData.eqv (ptD p) (ptD q) = decide (p = q) := by
  unfold ptD
  rw [eqv_PD]
  exact decide_eq_decide.mpr ⟨fun h => Prod.ext h.1 h.2, fun h => by rw [h]; exact ⟨rfl, rfl⟩⟩
theorem pv_map (B : Int) (L : List Vec) : L.map (pv B) = (L.map (ptOf B)).map ptD := by rw [List.map_map]; rfl
def sp_law_lowest_3_r : DSp := fun ds Q X => ∃ (x y b : Int), ds = [.int x, .int y, .int b] ∧ 0 < b ∧ Bd 8999 b ∧ Q (.d (pD (plow x y b)))
theorem p_law_lowest_3_r {G : Nat → DSp} (g135 : G 135 = sp_law_measure_2) : FnW G 4 3 m_law_lowest_3 sp_law_lowest_3_r := by
  intro ds Q X ⟨x, y, b, e, b0, bb, q⟩
  subst e
  refine ⟨rfl, ?_⟩
  have gp : 0 < gcd3 x y b := gcd3_pos (by omega)
  have gb : Bd 8999 ((gcd3 x y b : Nat) : Int) := gcd_bd (a := (Int.gcd x y : Nat)) bb (by omega)
  conv => whnf
  refine gC g135 ⟨_, _, rfl, ?_⟩
  conv => whnf
  refine gC g135 ⟨_, _, rfl, ?_⟩
  rw [show ((Int.gcd ((Int.gcd x y : Nat) : Int) b : Nat) : Int) = ((gcd3 x y b : Nat) : Int) from rfl]
  conv => whnf
  refine ⟨by omega, div_ok gb (by decide), fun u _ hu => ?_⟩
  have hu := hu (by omega)
  conv => whnf
  refine ⟨by omega, div_ok gb (by decide), fun v _ hv => ?_⟩
  have hv := hv (by omega)
  conv => whnf
  refine ⟨by omega, div_ok gb (by decide), fun w _ hw => ?_⟩
  have hw := hw (by omega)
  conv => whnf
  refine ⟨small_sz (by simp), ?_⟩
  conv => whnf
  rw [hu, hv, hw]
  exact q
theorem Mx.far {S : List Vec} {v : Vec} (ne : S ≠ []) (h : Mx S v) (d : Vec) : dot v d ≤ farV S d := by
  obtain ⟨u, w, s, t, hu, hw, s0, t0, st, e1, e2⟩ := h
  have k1 := (farV_spec S d ne).2 u hu
  have k2 := (farV_spec S d ne).2 w hw
  have : 0 ≤ farV S d - dot v d := by
    refine lin_nn s0 t0 st ?_ (show 0 ≤ farV S d - dot u d by omega) (show 0 ≤ farV S d - dot w d by omega)
    generalize farV S d = f
    unfold dot
    grind
  omega
theorem Mx.one {S : List Vec} {v a : Vec} (h : Mx S v) (e : hull S = [a]) : v = a := by
  have ne : S ≠ [] := by
    obtain ⟨u, w, s, t, hu, _⟩ := h
    exact List.ne_nil_of_mem hu
  have key : ∀ d : Vec, farV S d = dot a d := fun d => by rw [← far_hull ne, e]; rfl
  have k2 : ∀ d : Vec, dot v d ≤ dot a d := fun d => by rw [← key]; exact h.far ne d
  have a1 := k2 (1, 0)
  have a2 := k2 (-1, 0)
  have a3 := k2 (0, 1)
  have a4 := k2 (0, -1)
  unfold dot at a1 a2 a3 a4
  exact Prod.ext (by dsimp only at *; omega) (by dsimp only at *; omega)
end DL
end
section
namespace DL
def m_law_size_4 : Ss := (.cons (.set 1 (.int 1)) (.cons (.for_ (.nm 2) (.rng1 (.v 0)) (.cons (.set 1 (.bin .Mult (.v 1) (.int 10))) .nil)) (.cons (.ret (.v 1)) .nil)))
end DL
end
section
namespace DL
def m_law_between : Ss := (.cons (.set 4 (.bin .Add (.bin .Mult (.bin .Mult (.ix (.v 0) (.int 0)) (.ix (.v 1) (.int 2))) (.bin .Sub (.v 3) (.v 2))) (.bin .Mult (.bin .Mult (.ix (.v 1) (.int 0)) (.ix (.v 0) (.int 2))) (.v 2)))) (.cons (.set 5 (.bin .Add (.bin .Mult (.bin .Mult (.ix (.v 0) (.int 1)) (.ix (.v 1) (.int 2))) (.bin .Sub (.v 3) (.v 2))) (.bin .Mult (.bin .Mult (.ix (.v 1) (.int 1)) (.ix (.v 0) (.int 2))) (.v 2)))) (.cons (.ret (.call 136 (.cons (.v 4) (.cons (.v 5) (.cons (.bin .Mult (.bin .Mult (.ix (.v 0) (.int 2)) (.ix (.v 1) (.int 2))) (.v 3)) .nil))))) .nil)))
end DL
end
section
namespace DL
def m_law_place_by_2 : Ss := (.cons (.set 2 (.call 137 (.cons (.v 0) (.cons (.int 1) .nil)))) (.cons (.set 3 (.bin .Mod (.v 2) (.int 8))) (.cons (.set 2 (.bin .FloorDiv (.v 2) (.int 8))) (.cons (.set 4 (.bin .Sub (.bin .Mod (.bin .FloorDiv (.v 2) (.int 5)) (.int 13)) (.int 6))) (.cons (.set 5 (.bin .Sub (.bin .Mod (.bin .FloorDiv (.v 2) (.int 65)) (.int 13)) (.int 6))) (.cons (.ifs (.and (.cmp .Eq (.v 3) (.int 1)) (.cmp .Gt (.bi .len (.cons (.v 1) .nil)) (.int 0))) (.cons (.ret (.ix (.v 1) (.bin .Mod (.v 2) (.bi .len (.cons (.v 1) .nil))))) .nil) .nil) (.cons (.ifs (.and (.cmp .Eq (.v 3) (.int 2)) (.cmp .Gt (.bi .len (.cons (.v 1) .nil)) (.int 0))) (.cons (.set 6 (.ix (.v 1) (.bin .Mod (.v 2) (.bi .len (.cons (.v 1) .nil))))) (.cons (.set 7 (.ix (.v 1) (.bin .Mod (.bin .FloorDiv (.v 2) (.int 97)) (.bi .len (.cons (.v 1) .nil))))) (.cons (.ifs (.cmp .Lt (.bin .Mult (.ix (.v 6) (.int 2)) (.ix (.v 7) (.int 2))) (.bin .Pow (.int 10) (.int 12))) (.cons (.ret (.call 297 (.cons (.v 6) (.cons (.v 7) (.cons (.bin .Add (.int 1) (.bin .Mod (.v 2) (.int 3))) (.cons (.int 4) .nil)))))) .nil) .nil) .nil))) .nil) (.cons (.ifs (.cmp .Eq (.v 3) (.int 3)) (.cons (.set 5 (.bin .Add (.bin .Mult (.int 2) (.v 4)) (.int 1))) .nil) .nil) (.cons (.ifs (.cmp .Eq (.v 3) (.int 4)) (.cons (.set 5 (.bin .Sub (.call 137 (.cons (.v 0) (.cons (.int 2) .nil))) (.bin .Pow (.int 10) (.int 8)))) (.cons (.ret (.call 136 (.cons (.bin .Sub (.bin .Mod (.v 0) (.bin .Add (.bin .Mult (.int 2) (.bin .Pow (.int 10) (.int 20))) (.int 1))) (.bin .Pow (.int 10) (.int 20))) (.cons (.v 5) (.cons (.bin .Add (.int 1) (.bin .Mod (.v 2) (.bin .Pow (.int 10) (.int 5)))) .nil))))) .nil)) .nil) (.cons (.ret (.call 136 (.cons (.v 4) (.cons (.v 5) (.cons (.ix (.lst (.cons (.int 1) (.cons (.int 1) (.cons (.int 2) (.cons (.int 3) (.cons (.int 6) .nil)))))) (.bin .Mod (.v 2) (.int 5))) .nil))))) .nil))))))))))
end DL
end
section
namespace DL
def m_law_place_free : Ss := (.cons (.set 2 (.call 299 (.cons (.bin .Add (.int 1) (.bin .Mod (.v 0) (.v 1))) .nil))) (.cons (.set 3 (.bin .FloorDiv (.v 0) (.v 1))) (.cons (.set 4 (.call 140 (.cons (.v 3) (.cons (.v 2) .nil)))) (.cons (.set 3 (.bin .FloorDiv (.v 3) (.bin .Add (.bin .Mult (.int 2) (.v 2)) (.int 1)))) (.cons (.set 5 (.call 140 (.cons (.v 3) (.cons (.v 2) .nil)))) (.cons (.ret (.call 136 (.cons (.v 4) (.cons (.v 5) (.cons (.bin .Add (.int 1) (.bin .Mod (.bin .FloorDiv (.v 3) (.bin .Add (.bin .Mult (.int 2) (.v 2)) (.int 1))) (.v 2))) .nil))))) .nil))))))
end DL
end
section
namespace DL
def m_law_places : Ss := (.cons (.ifs (.cmp .Gt (.v 1) (.int 0)) (.cons (.ret (.lc (.call 300 (.cons (.v 2) (.cons (.v 1) .nil))) (.nm 2) (.ex (.v 0)) .nil [("cell", 2)])) .nil) .nil) (.cons (.set 3 (.lst .nil)) (.cons (.for_ (.nm 2) (.ex (.v 0)) (.cons (.appL 3 298 (.v 2)) .nil)) (.cons (.frz 3) (.cons (.frz 3) (.cons (.ret (.v 3)) .nil))))))
end DL
end
section
set_option maxRecDepth 100000
set_option maxHeartbeats 4000000
set_option exponentiation.threshold 100000
namespace DL
open PySem L2
local macro_rules | `(tactic| l_ints) => `(tactic| first | (assumption) | (apply Bd.neg; l_ints) | (apply Bd.mul <;> l_ints) | (exact bd40 (by omega) (by omega)) | (apply Bd.add <;> l_ints) | (apply Bd.sub <;> l_ints) | (exact bd130 (by omega) (by omega)) | (exact bd210 (by omega) (by omega)) | (exact bd_self _) | fail)
def sp_law_size_4 : DSp := fun ds Q X => ∃ (n : Nat), ds = [.int n] ∧ n ≤ 200 ∧ Q (.d (.int (10 ^ n : Nat)))
theorem ten_bd (i : Nat) : Bd (4 * i + 1) ((10 ^ i : Nat) : Int) := by
  show Int.natAbs ((10 ^ i : Nat) : Int) < 2 ^ (4 * i + 1)
  rw [Int.natAbs_natCast]
  have h : 10 ^ i ≤ 16 ^ i := Nat.pow_le_pow_left (by decide) i
  have e : (2 : Nat) ^ (4 * i + 1) = 16 ^ i * 2 := by rw [Nat.pow_succ, Nat.pow_mul]
  have p : 0 < 16 ^ i := Nat.pow_pos (by decide)
  rw [e]
  omega
theorem p_law_size_4 {G : Nat → DSp} : FnW G 3 1 m_law_size_4 sp_law_size_4 := by
  intro ds Q X ⟨n, e, hn, q⟩
  subst e
  refine ⟨rfl, ?_⟩
  conv => whnf
  refine ⟨Int.ofNat_le.mpr (small_sz (by omega)), by omega, ?_⟩
  conv => whnf
  refine ⟨rfl, ?_⟩
  rw [show ((n : Int)).toNat = n from rfl]
  refine rng_ind (fun i ρ => i ≤ n ∧ ∃ a, ρ = [some (.d (.int n)), some (.d (.int (10 ^ i : Nat))), a]) n ?_ ?_ _ ⟨Nat.zero_le _, _, rfl⟩
  · rintro ρ ⟨_, a, rfl⟩
    ((conv => whnf); repeat' (first | (refine wIf_tt ?_; conv => whnf) | (refine wIf_ff ?_; conv => whnf) | (refine wIf.mk (fun hif => (have hif := of_decide_eq_true hif; ?_)) (fun hif => (have hif := of_decide_eq_false hif; ?_)) <;> (conv => whnf)) | (refine wIf_not ?_) | (refine ⟨(by decide : (_ : Int) ≠ 0), fun w _ hw => ?_⟩; replace hw := hw (by decide); conv => whnf) | (refine ⟨(by decide : (_ : Int) ≠ 0), div_lit (by decide), fun w _ hw => ?_⟩; replace hw := hw (by decide); conv => whnf) | (refine eq_rD ?_; conv => whnf) | (refine eq_ts ?_; conv => whnf) | (refine ne_ts ?_; conv => whnf) | (refine ne_rD ?_; conv => whnf) | (refine eq_vD ?_; conv => whnf) | (refine ne_vD ?_; conv => whnf) | (refine ⟨isi_ok rfl, ?_⟩; conv => whnf) | (apply wMulS.mk; (first | exact mul_l (by decide) (by decide) | exact mul_r (by decide) (by decide) | exact mul_ok (by l_ints) (by l_ints) (by decide)); conv => whnf) | (refine ⟨⟨by decide, by decide, by decide⟩, ?_⟩; conv => whnf) | (refine ⟨⟨by decide, by decide, by omega⟩, ?_⟩; conv => whnf) | (refine ⟨small_sz (Nat.le_of_ble_eq_true rfl), ?_⟩; conv => whnf) | fail))
    exact q
  rintro i ρ hi ⟨_, a, rfl⟩ nx hnx
  conv => whnf
  refine ⟨mul_ok (ten_bd i) (show Bd 4 (10 : Int) by decide) (by omega), ?_⟩
  conv => whnf
  rw [show ((10 ^ i : Nat) : Int) * 10 = ((10 ^ (i + 1) : Nat) : Int) from by rw [Nat.pow_succ]; push_cast; rfl]
  exact hnx _ ⟨by omega, _, rfl⟩
structure PlS (p : Pt) : Prop where
  x1 : -(10 ^ 20 * bot p) ≤ (plc p.1 p.2).1
  x2 : (plc p.1 p.2).1 ≤ 10 ^ 20 * bot p
  y1 : -(10 ^ 20 * bot p) ≤ (plc p.1 p.2).2.1
  y2 : (plc p.1 p.2).2.1 ≤ 10 ^ 20 * bot p
  b : bot p ≤ 4 * 10 ^ 12
theorem PlS.ptb {p : Pt} (h : PlS p) : PtB 200 p := by
  have b0 := bot_pos p
  have h1 := h.x1
  have h2 := h.x2
  have h3 := h.y1
  have h4 := h.y2
  have h5 := h.b
  have big : 10 ^ 20 * (4 * 10 ^ 12) < 2 ^ 200 := by decide +kernel
  exact ⟨bd_of (by omega) (by omega), bd_of (by omega) (by omega), bd_of (by omega) (by omega)⟩
theorem pls_of {x y b : Int} (b0 : 0 < b) (x1 : -(10 ^ 20 * b) ≤ x) (x2 : x ≤ 10 ^ 20 * b) (y1 : -(10 ^ 20 * b) ≤ y) (y2 : y ≤ 10 ^ 20 * b) (hb : b ≤ 4 * 10 ^ 12) : PlS (Rat.divInt x b, Rat.divInt y b) := by
  have e : plc (Rat.divInt x b) (Rat.divInt y b) = plow x y b := (plow_eq b0).symm
  have g0 : 0 < gcd3 x y b := gcd3_pos (by omega)
  obtain ⟨u, hu⟩ : (gcd3 x y b : Int) ∣ x := gcd3_x
  obtain ⟨v, hv⟩ : (gcd3 x y b : Int) ∣ y := Int.dvd_trans (Int.gcd_dvd_left ..) (Int.gcd_dvd_right ..)
  obtain ⟨w, hw⟩ : (gcd3 x y b : Int) ∣ b := Int.gcd_dvd_right ..
  have gi : (0 : Int) < gcd3 x y b := by omega
  have ex : x / (gcd3 x y b : Int) = u := by conv => lhs; arg 1; rw [hu]
                                             exact Int.mul_ediv_cancel_left _ (by omega)
  have ey : y / (gcd3 x y b : Int) = v := by conv => lhs; arg 1; rw [hv]
                                             exact Int.mul_ediv_cancel_left _ (by omega)
  have eb : b / (gcd3 x y b : Int) = w := by conv => lhs; arg 1; rw [hw]
                                             exact Int.mul_ediv_cancel_left _ (by omega)
  have ep : plc (Rat.divInt x b) (Rat.divInt y b) = (u, v, w) := by
    rw [e]
    unfold plow
    rw [ex, ey, eb]
  have le : ∀ s t : Int, (gcd3 x y b : Int) * s ≤ (gcd3 x y b : Int) * t → s ≤ t := fun s t h => Int.le_of_mul_le_mul_left h gi
  have w0 : 0 < w := by
    have := bot_pos (Rat.divInt x b, Rat.divInt y b)
    unfold bot at this
    rw [ep] at this
    exact this
  have wb : w ≤ b := by
    have : 1 * w ≤ (gcd3 x y b : Int) * w := Int.mul_le_mul_of_nonneg_right (by omega) (by omega)
    omega
  have bt : bot (Rat.divInt x b, Rat.divInt y b) = w := by unfold bot; rw [ep]
  generalize (gcd3 x y b : Int) = g at *
  refine ⟨?_, ?_, ?_, ?_, by rw [bt]; omega⟩ <;> rw [bt] <;> (try dsimp only) <;> rw [ep] <;> refine le _ _ ?_ <;> dsimp only <;> grind
def mixX (a b : Pt) (t d : Int) : Int := (plc a.1 a.2).1 * bot b * (d - t) + (plc b.1 b.2).1 * bot a * t
def mixY (a b : Pt) (t d : Int) : Int := (plc a.1 a.2).2.1 * bot b * (d - t) + (plc b.1 b.2).2.1 * bot a * t
def mixP (a b : Pt) (t d : Int) : Pt := (Rat.divInt (mixX a b t d) (bot a * bot b * d), Rat.divInt (mixY a b t d) (bot a * bot b * d))
def sp_law_between : DSp := fun ds Q X => ∃ (a b : Pt) (t d : Int) (m : Nat), ds = [ptD a, ptD b, .int t, .int d] ∧ PtB m a ∧ PtB m b ∧ 0 < d ∧ (∃ j : Nat, 2 * m + j ≤ 8990 ∧ Bd j d ∧ Bd j t) ∧ Q (.d (ptD (mixP a b t d)))
theorem p_law_between {G : Nat → DSp} (g136 : G 136 = sp_law_lowest_3_r) : FnW G 6 4 m_law_between sp_law_between := by
  intro ds Q X ⟨a, b, t, d, m, e, pa, pb, d0, ⟨j, hm, bd, bt⟩, q⟩
  subst e
  refine ⟨rfl, ?_⟩
  have a0 := bot_pos a
  have b0 := bot_pos b
  have b4 : Bd (j + 1) (d - t) := (bd.sub bt).mono (by omega)
  conv => whnf
  refine ⟨mul_ok pa.x pb.b (by omega), ?_⟩
  conv => whnf
  refine ⟨mul_ok (pa.x.mul pb.b) b4 (by omega), ?_⟩
  conv => whnf
  refine ⟨mul_ok pb.x pa.b (by omega), ?_⟩
  conv => whnf
  refine ⟨mul_ok (pb.x.mul pa.b) bt (by omega), ?_⟩
  conv => whnf
  refine ⟨mul_ok pa.y pb.b (by omega), ?_⟩
  conv => whnf
  refine ⟨mul_ok (pa.y.mul pb.b) b4 (by omega), ?_⟩
  conv => whnf
  refine ⟨mul_ok pb.y pa.b (by omega), ?_⟩
  conv => whnf
  refine ⟨mul_ok (pb.y.mul pa.b) bt (by omega), ?_⟩
  conv => whnf
  refine ⟨mul_ok pa.b pb.b (by omega), ?_⟩
  conv => whnf
  refine ⟨mul_ok (pa.b.mul pb.b) bd (by omega), ?_⟩
  conv => whnf
  have c0 : 0 < bot a * bot b * d := Int.mul_pos (Int.mul_pos a0 b0) d0
  refine gC g136 ⟨_, _, _, rfl, c0, ((pa.b.mul pb.b).mul bd).mono (by omega), ?_⟩
  unfold ptD PD mixP at q
  rw [← plow_eq c0] at q
  exact q
theorem mix_le {x y z A B t : Int} (t1 : 1 ≤ t) (t3 : t ≤ 3) (hx1 : -(10 ^ 20 * A) ≤ x) (hx2 : x ≤ 10 ^ 20 * A) (hy1 : -(10 ^ 20 * A) ≤ y) (hy2 : y ≤ 10 ^ 20 * A) : -(10 ^ 20 * (A * 4)) ≤ x * (4 - t) + y * t ∧ x * (4 - t) + y * t ≤ 10 ^ 20 * (A * 4) := by
  have : t = 1 ∨ t = 2 ∨ t = 3 := by omega
  rcases this with h | h | h <;> subst h <;> omega
theorem pls_mix {a b : Pt} {t : Int} (ha : PlS a) (hb : PlS b) (hab : bot a * bot b < 10 ^ 12) (t1 : 1 ≤ t) (t3 : t ≤ 3) : PlS (mixP a b t 4) := by
  have a0 := bot_pos a
  have b0 := bot_pos b
  have ab0 : 0 < bot a * bot b := Int.mul_pos a0 b0
  have up : ∀ x c d : Int, 0 < d → x ≤ 10 ^ 20 * c → x * d ≤ 10 ^ 20 * (c * d) := fun x c d h z => by
    have := Int.mul_le_mul_of_nonneg_right z (Int.le_of_lt h)
    rw [Int.mul_assoc] at this
    exact this
  have dn : ∀ x c d : Int, 0 < d → -(10 ^ 20 * c) ≤ x → -(10 ^ 20 * (c * d)) ≤ x * d := fun x c d h z => by
    have := Int.mul_le_mul_of_nonneg_right z (Int.le_of_lt h)
    rw [Int.neg_mul, Int.mul_assoc] at this
    exact this
  have cm : bot b * bot a = bot a * bot b := Int.mul_comm ..
  have xs := mix_le (z := 0) (B := 0) t1 t3 (dn _ _ _ b0 ha.x1) (up _ _ _ b0 ha.x2) (by rw [← cm]; exact dn _ _ _ a0 hb.x1) (by rw [← cm]; exact up _ _ _ a0 hb.x2)
  have ys := mix_le (z := 0) (B := 0) t1 t3 (dn _ _ _ b0 ha.y1) (up _ _ _ b0 ha.y2) (by rw [← cm]; exact dn _ _ _ a0 hb.y1) (by rw [← cm]; exact up _ _ _ a0 hb.y2)
  have c0 : 0 < bot a * bot b * 4 := by omega
  exact pls_of c0 xs.1 xs.2 ys.1 ys.2 (by omega)
theorem low_r {G : Nat → DSp} (g136 : G 136 = sp_law_lowest_3_r) {Q : R → Prop} {X : Nat → Prop} (q : ∀ r, PlS r → Q (.d (ptD r))) {x y b : Int} (b0 : 0 < b) (hb : b ≤ 10 ^ 5) (hx : -(10 ^ 20) ≤ x ∧ x ≤ 10 ^ 20) (hy : -(10 ^ 20) ≤ y ∧ y ≤ 10 ^ 20) : G 136 [.int x, .int y, .int b] Q X := by
  refine gC g136 ⟨x, y, b, rfl, b0, Bd.mono (bd_of (n := 20) (by omega) (by omega)) (by decide), ?_⟩
  have r := q _ (pls_of b0 (x := x) (y := y) (by omega) (by omega) (by omega) (by omega) (by omega))
  unfold ptD PD at r
  rw [← plow_eq b0] at r
  exact r
def sp_law_place_by_2 : DSp := fun ds Q X => ∃ (c : Int) (ps : List Pt), ds = [.int c, .list (ps.map ptD)] ∧ ps.length ≤ 400 ∧ (∀ p ∈ ps, PlS p) ∧ ∀ r, PlS r → Q (.d (ptD r))
theorem p_law_place_by_2 {G : Nat → DSp} (g137 : G 137 = sp_law_mixed) (g297 : G 297 = sp_law_between) (g136 : G 136 = sp_law_lowest_3_r) : FnW G 8 2 m_law_place_by_2 sp_law_place_by_2 := by
  intro ds Q X ⟨c, ps, e, hl, hp, q⟩
  subst e
  refine ⟨rfl, ?_⟩
  have len : ((ps.map ptD).length : Int) = ps.length := by simp
  have pk : ∀ (k : Int), 0 ≤ k → k < ps.length → ∃ p, p ∈ ps ∧ atI (ps.map ptD) k = some (ptD p) := fun k h0 h1 => by
    obtain ⟨p, h2, h3⟩ := atI_maps (f := ptD) (xs := ps) (i := k) (by omega) h1
    exact ⟨p, h2, h3⟩
  have h20 : (10 : Int) ^ (20 : Int).toNat = 10 ^ 20 := rfl
  have h8 : (10 : Int) ^ (8 : Int).toNat = 10 ^ 8 := rfl
  have h5 : (10 : Int) ^ (5 : Int).toNat = 10 ^ 5 := rfl
  have h12 : (10 : Int) ^ (12 : Int).toNat = 10 ^ 12 := rfl
  have last : ∀ (r w x y : Int) (a b : Option DL.R), 0 ≤ r → -6 ≤ x → x ≤ 6 → -13 ≤ y → y ≤ 13 → wSs G (Ss.dr 8 m_law_place_by_2) (endOf Q X) [some (.d (.int c)), some (.d (.list (ps.map ptD))), some (.d (.int r)), some (.d (.int w)), some (.d (.int x)), some (.d (.int y)), a, b] := by
    intro r w x y a b r0 x1 x2 y1 y2
    conv => whnf
    refine wIf.mk (fun h => ?_) (fun h => ?_)
    · conv => whnf
      refine gC g137 ⟨c, 2, rfl, by decide, by decide, fun z z0 z1 => ?_⟩
      ((conv => whnf); repeat (first | (refine wIf_tt ?_; conv => whnf) | (refine wIf_ff ?_; conv => whnf) | (refine ⟨(by decide : (_ : Int) ≠ 0), fun w _ hw => ?_⟩; replace hw := hw (by decide); conv => whnf) | (refine ⟨(by decide : (_ : Int) ≠ 0), div_lit (by decide), fun w _ hw => ?_⟩; replace hw := hw (by decide); conv => whnf) | (refine eq_rD ?_; conv => whnf) | (refine eq_ts ?_; conv => whnf) | (refine ne_ts ?_; conv => whnf) | (refine ne_rD ?_; conv => whnf) | (refine eq_vD ?_; conv => whnf) | (refine ne_vD ?_; conv => whnf) | (refine ⟨isi_ok rfl, ?_⟩; conv => whnf) | (apply wMulS.mk; (first | exact mul_l (by decide) (by decide) | exact mul_r (by decide) (by decide) | exact mul_ok (by l_ints) (by l_ints) (by decide)); conv => whnf) | (refine ⟨⟨by decide, by decide, by decide⟩, ?_⟩; conv => whnf) | (refine ⟨⟨by decide, by decide, by omega⟩, ?_⟩; conv => whnf) | (refine ⟨small_sz (Nat.le_of_ble_eq_true rfl), ?_⟩; conv => whnf) | fail))
      rename_i w1 w1p hw1 _
      rw [h8, h20]
      rw [h20] at hw1
      rw [h5] at hw
      refine low_r g136 ?_ ?_ ?_ ?_ ?_ <;> first | omega | exact fun r hr => q r hr
    · ((conv => whnf); repeat (first | (refine wIf_tt ?_; conv => whnf) | (refine wIf_ff ?_; conv => whnf) | (refine ⟨(by decide : (_ : Int) ≠ 0), fun w _ hw => ?_⟩; replace hw := hw (by decide); conv => whnf) | (refine ⟨(by decide : (_ : Int) ≠ 0), div_lit (by decide), fun w _ hw => ?_⟩; replace hw := hw (by decide); conv => whnf) | (refine eq_rD ?_; conv => whnf) | (refine eq_ts ?_; conv => whnf) | (refine ne_ts ?_; conv => whnf) | (refine ne_rD ?_; conv => whnf) | (refine eq_vD ?_; conv => whnf) | (refine ne_vD ?_; conv => whnf) | (refine ⟨isi_ok rfl, ?_⟩; conv => whnf) | (apply wMulS.mk; (first | exact mul_l (by decide) (by decide) | exact mul_r (by decide) (by decide) | exact mul_ok (by l_ints) (by l_ints) (by decide)); conv => whnf) | (refine ⟨⟨by decide, by decide, by decide⟩, ?_⟩; conv => whnf) | (refine ⟨⟨by decide, by decide, by omega⟩, ?_⟩; conv => whnf) | (refine ⟨small_sz (Nat.le_of_ble_eq_true rfl), ?_⟩; conv => whnf) | fail))
      have : w = 0 ∨ w = 1 ∨ w = 2 ∨ w = 3 ∨ w = 4 := by omega
      rcases this with h | h | h | h | h
      all_goals
        rw [h]
        conv => whnf
        refine low_r g136 ?_ ?_ ?_ ?_ ?_ <;> first | omega | exact fun r hr => q r hr
  have l3 : ∀ (r w x y : Int) (a b : Option DL.R), 0 ≤ r → -6 ≤ x → x ≤ 6 → -6 ≤ y → y ≤ 6 → wSs G (Ss.dr 7 m_law_place_by_2) (endOf Q X) [some (.d (.int c)), some (.d (.list (ps.map ptD))), some (.d (.int r)), some (.d (.int w)), some (.d (.int x)), some (.d (.int y)), a, b] := by
    intro r w x y a b r0 x1 x2 y1 y2
    conv => whnf
    refine wIf.mk (fun h => ?_) (fun h => ?_)
    · ((conv => whnf); repeat (first | (refine wIf_tt ?_; conv => whnf) | (refine wIf_ff ?_; conv => whnf) | (refine ⟨(by decide : (_ : Int) ≠ 0), fun w _ hw => ?_⟩; replace hw := hw (by decide); conv => whnf) | (refine ⟨(by decide : (_ : Int) ≠ 0), div_lit (by decide), fun w _ hw => ?_⟩; replace hw := hw (by decide); conv => whnf) | (refine eq_rD ?_; conv => whnf) | (refine eq_ts ?_; conv => whnf) | (refine ne_ts ?_; conv => whnf) | (refine ne_rD ?_; conv => whnf) | (refine eq_vD ?_; conv => whnf) | (refine ne_vD ?_; conv => whnf) | (refine ⟨isi_ok rfl, ?_⟩; conv => whnf) | (apply wMulS.mk; (first | exact mul_l (by decide) (by decide) | exact mul_r (by decide) (by decide) | exact mul_ok (by l_ints) (by l_ints) (by decide)); conv => whnf) | (refine ⟨⟨by decide, by decide, by decide⟩, ?_⟩; conv => whnf) | (refine ⟨⟨by decide, by decide, by omega⟩, ?_⟩; conv => whnf) | (refine ⟨small_sz (Nat.le_of_ble_eq_true rfl), ?_⟩; conv => whnf) | fail))
      exact last _ _ _ _ _ _ r0 x1 x2 (by omega) (by omega)
    · conv => whnf
      exact last _ _ _ _ _ _ r0 x1 x2 (by omega) (by omega)
  have l2 : ∀ (r w x y : Int) (a b : Option DL.R), 0 ≤ r → -6 ≤ x → x ≤ 6 → -6 ≤ y → y ≤ 6 → wSs G (Ss.dr 6 m_law_place_by_2) (endOf Q X) [some (.d (.int c)), some (.d (.list (ps.map ptD))), some (.d (.int r)), some (.d (.int w)), some (.d (.int x)), some (.d (.int y)), a, b] := by
    intro r w x y a b r0 x1 x2 y1 y2
    conv => whnf
    refine wIf.mk (fun h => ?_) (fun h => ?_)
    · conv => whnf
      refine wIf.mk (fun h => ?_) (fun h => ?_)
      · have h : 0 < (ps.length : Int) := by have := of_decide_eq_true h; omega
        conv => whnf
        refine ⟨by omega, fun w1 _ hw1 => ?_⟩
        have e1 := hw1 (by omega)
        have e2 := Int.emod_nonneg r (show ((ps.map ptD).length : Int) ≠ 0 by omega)
        have e3 := Int.emod_lt_of_pos r (show 0 < ((ps.map ptD).length : Int) by omega)
        obtain ⟨u, hu, eu⟩ := pk w1 (by omega) (by omega)
        conv => whnf
        rw [eu]
        conv => whnf
        refine ⟨by decide, div_lit (by decide), fun r2 _ hr2 => ?_⟩
        conv => whnf
        refine ⟨by omega, fun w2 _ hw2 => ?_⟩
        have e4 := hw2 (by omega)
        have e5 := Int.emod_nonneg r2 (show ((ps.map ptD).length : Int) ≠ 0 by omega)
        have e6 := Int.emod_lt_of_pos r2 (show 0 < ((ps.map ptD).length : Int) by omega)
        obtain ⟨v, hv, ev⟩ := pk w2 (by omega) (by omega)
        conv => whnf
        rw [ev]
        conv => whnf
        refine ⟨mul_ok (hp u hu).ptb.b (hp v hv).ptb.b (by decide), ?_⟩
        conv => whnf
        refine ⟨⟨by decide, by decide, by decide⟩, ?_⟩
        conv => whnf
        refine wIf.mk (fun h => ?_) (fun h => ?_)
        · have h := of_decide_eq_true h
          have h : bot u * bot v < 10 ^ (12 : Int).toNat := h
          rw [h12] at h
          conv => whnf
          refine ⟨by decide, fun w3 _ hw3 => ?_⟩
          have e7 : w3 = r % 3 := hw3 (by decide)
          conv => whnf
          refine gC g297 ⟨u, v, 1 + w3, 4, 200, rfl, (hp u hu).ptb, (hp v hv).ptb, by decide, ⟨10, by decide, by decide, bd_of (by omega) (by omega)⟩, ?_⟩
          exact q _ (pls_mix (hp u hu) (hp v hv) h (by omega) (by omega))
        · conv => whnf
          exact l3 _ _ _ _ _ _ r0 x1 x2 y1 y2
      · exact l3 _ _ _ _ _ _ r0 x1 x2 y1 y2
    · conv => whnf
      refine wIf_ff ?_
      exact l3 _ _ _ _ _ _ r0 x1 x2 y1 y2
  conv => whnf
  refine gC g137 ⟨c, 1, rfl, by decide, by decide, fun z z0 z1 => ?_⟩
  conv => whnf
  refine ⟨by decide, fun w1 _ hw1 => ?_⟩
  have hw1 : w1 = z % 8 := hw1 (by decide)
  conv => whnf
  refine ⟨by decide, div_lit (by decide), fun r _ hr => ?_⟩
  have hr : r = z / 8 := hr (by decide)
  conv => whnf
  refine ⟨by decide, div_lit (by decide), fun r1 _ hr1 => ?_⟩
  have hr1 : r1 = r / 5 := hr1 (by decide)
  conv => whnf
  refine ⟨by decide, fun x _ hx => ?_⟩
  have hx : x = r1 % 13 := hx (by decide)
  conv => whnf
  refine ⟨by decide, div_lit (by decide), fun r2 _ hr2 => ?_⟩
  have hr2 : r2 = r / 65 := hr2 (by decide)
  conv => whnf
  refine ⟨by decide, fun y _ hy => ?_⟩
  have hy : y = r2 % 13 := hy (by decide)
  conv => whnf
  refine wIf.mk (fun h => ?_) (fun h => ?_)
  · conv => whnf
    refine wIf.mk (fun h => ?_) (fun h => ?_)
    · have h : 0 < (ps.length : Int) := by have := of_decide_eq_true h; omega
      conv => whnf
      refine ⟨by omega, fun w2 _ hw2 => ?_⟩
      have e1 := hw2 (by omega)
      have e2 := Int.emod_nonneg r (show ((ps.map ptD).length : Int) ≠ 0 by omega)
      have e3 := Int.emod_lt_of_pos r (show 0 < ((ps.map ptD).length : Int) by omega)
      obtain ⟨u, hu, eu⟩ := pk w2 (by omega) (by omega)
      conv => whnf
      rw [eu]
      exact q u (hp u hu)
    · refine l2 _ _ _ _ _ _ ?_ ?_ ?_ ?_ ?_ <;> omega
  · conv => whnf
    refine wIf_ff ?_
    refine l2 _ _ _ _ _ _ ?_ ?_ ?_ ?_ ?_ <;> omega
theorem ptb_low {x y b : Int} {m : Nat} (b0 : 0 < b) (hx : Bd m x) (hy : Bd m y) (hb : Bd m b) : PtB m (Rat.divInt x b, Rat.divInt y b) := by
  have e : plc (Rat.divInt x b) (Rat.divInt y b) = plow x y b := (plow_eq b0).symm
  have g0 : 0 < gcd3 x y b := gcd3_pos (by omega)
  obtain ⟨u, hu⟩ : (gcd3 x y b : Int) ∣ x := gcd3_x
  obtain ⟨v, hv⟩ : (gcd3 x y b : Int) ∣ y := Int.dvd_trans (Int.gcd_dvd_left ..) (Int.gcd_dvd_right ..)
  obtain ⟨w, hw⟩ : (gcd3 x y b : Int) ∣ b := Int.gcd_dvd_right ..
  have gi : (0 : Int) < gcd3 x y b := by omega
  have ex : x / (gcd3 x y b : Int) = u := by conv => lhs; arg 1; rw [hu]
                                             exact Int.mul_ediv_cancel_left _ (by omega)
  have ey : y / (gcd3 x y b : Int) = v := by conv => lhs; arg 1; rw [hv]
                                             exact Int.mul_ediv_cancel_left _ (by omega)
  have eb : b / (gcd3 x y b : Int) = w := by conv => lhs; arg 1; rw [hw]
                                             exact Int.mul_ediv_cancel_left _ (by omega)
  have ep : plc (Rat.divInt x b) (Rat.divInt y b) = (u, v, w) := by
    rw [e]
    unfold plow
    rw [ex, ey, eb]
  have le : ∀ s t : Int, s = (gcd3 x y b : Int) * t → t.natAbs ≤ s.natAbs := fun s t h => by
    rw [h, Int.natAbs_mul, Int.natAbs_natCast]
    have := Nat.mul_le_mul_right t.natAbs g0
    omega
  refine ⟨?_, ?_, ?_⟩
  · rw [ep]; exact hx.le (le _ _ hu)
  · rw [ep]; exact hy.le (le _ _ hv)
  · unfold bot; rw [ep]; exact hb.le (le _ _ hw)
def sp_law_digit_r : DSp := fun ds Q X => ∃ (r s : Int), ds = [.int r, .int s] ∧ 0 ≤ s ∧ s ≤ 10 ^ 60 ∧ ∀ d : Int, -s ≤ d → d ≤ s → Q (.d (.int d))
theorem p_law_digit_r {G : Nat → DSp} : FnW G 3 2 m_law_digit sp_law_digit_r := by
  intro ds Q X ⟨r, s, e, h1, h2, q⟩
  subst e
  refine ⟨rfl, ?_⟩
  have key : ∀ l r : Int, (0 < 2 * s + 1 → r = l % (2 * s + 1)) → 0 ≤ r ∧ r ≤ 2 * s := fun l r h => by
    have h := h (by omega)
    have a := Int.emod_nonneg l (show 2 * s + 1 ≠ 0 by omega)
    have b := Int.emod_lt_of_pos l (show 0 < 2 * s + 1 by omega)
    omega
  ((conv => whnf); repeat' (first | (refine ⟨by omega, fun w _ hw => ?_⟩; replace hw := key _ _ hw; conv => whnf) | (refine wIf_tt ?_; conv => whnf) | (refine wIf_ff ?_; conv => whnf) | (refine wIf.mk (fun hif => (have hif := of_decide_eq_true hif; ?_)) (fun hif => (have hif := of_decide_eq_false hif; ?_)) <;> (conv => whnf)) | (refine wIf_not ?_) | (refine ⟨(by decide : (_ : Int) ≠ 0), fun w _ hw => ?_⟩; replace hw := hw (by decide); conv => whnf) | (refine ⟨(by decide : (_ : Int) ≠ 0), div_lit (by decide), fun w _ hw => ?_⟩; replace hw := hw (by decide); conv => whnf) | (refine eq_rD ?_; conv => whnf) | (refine eq_ts ?_; conv => whnf) | (refine ne_ts ?_; conv => whnf) | (refine ne_rD ?_; conv => whnf) | (refine eq_vD ?_; conv => whnf) | (refine ne_vD ?_; conv => whnf) | (refine ⟨isi_ok rfl, ?_⟩; conv => whnf) | (apply wMulS.mk; (first | exact mul_l (by decide) (by decide) | exact mul_r (by decide) (by decide) | exact mul_ok (by l_ints) (by l_ints) (by decide)); conv => whnf) | (refine ⟨⟨by decide, by decide, by decide⟩, ?_⟩; conv => whnf) | (refine ⟨⟨by decide, by decide, by omega⟩, ?_⟩; conv => whnf) | (refine ⟨small_sz (Nat.le_of_ble_eq_true rfl), ?_⟩; conv => whnf) | fail))
  rename_i u _ hu t _ ht _
  have : w = 0 ∨ w = 1 := by omega
  rcases this with h | h <;> rw [h] <;> exact q _ (by omega) (by omega)
theorem ten_pow_le {n k : Nat} (h : n ≤ k) : ((10 ^ n : Nat) : Int) ≤ 10 ^ k := by
  have := Nat.pow_le_pow_right (show 0 < 10 by decide) h
  have e : ((10 ^ k : Nat) : Int) = 10 ^ k := by push_cast; rfl
  omega
def sp_law_place_free : DSp := fun ds Q X => ∃ (c k : Int), ds = [.int c, .int k] ∧ 1 ≤ k ∧ k ≤ 60 ∧ ∀ p : Pt, PtB 210 p → Q (.d (ptD p))
theorem p_law_place_free {G : Nat → DSp} (g299 : G 299 = sp_law_size_4) (g140 : G 140 = sp_law_digit_r) (g136 : G 136 = sp_law_lowest_3_r) : FnW G 6 2 m_law_place_free sp_law_place_free := by
  intro ds Q X ⟨c, k, e, k1, k2, q⟩
  subst e
  refine ⟨rfl, ?_⟩
  conv => whnf
  refine ⟨by show k ≠ 0; omega, fun w _ hw => ?_⟩
  have hw : w = c % k := hw (by omega)
  have w0 := Int.emod_nonneg c (show k ≠ 0 by omega)
  have w1 := Int.emod_lt_of_pos c (show 0 < k by omega)
  obtain ⟨n, hn⟩ : ∃ n : Nat, 1 + w = n := ⟨(1 + w).toNat, by omega⟩
  conv => whnf
  rw [hn]
  refine gC g299 ⟨n, rfl, by omega, ?_⟩
  have s1 : ((10 ^ n : Nat) : Int) ≤ 10 ^ 60 := ten_pow_le (by omega)
  have s0 : (1 : Int) ≤ ((10 ^ n : Nat) : Int) := by
    have := Nat.pow_pos (n := n) (show 0 < 10 by decide)
    omega
  generalize ((10 ^ n : Nat) : Int) = s at s0 s1
  conv => whnf
  refine ⟨by show k ≠ 0; omega, div_ok (n := 10) (bd_of (by omega) (by omega)) (by decide), fun r _ _ => ?_⟩
  conv => whnf
  refine gC g140 ⟨r, s, rfl, by omega, s1, fun x x0 x1 => ?_⟩
  conv => whnf
  refine ⟨mul_l (by decide) (by decide), ?_⟩
  conv => whnf
  refine ⟨by show 2 * s + 1 ≠ 0; omega, div_ok (n := 210) (bd210 (by omega) (by omega)) (by decide), fun r2 _ _ => ?_⟩
  conv => whnf
  refine gC g140 ⟨r2, s, rfl, by omega, s1, fun y y0 y1 => ?_⟩
  conv => whnf
  refine ⟨mul_l (by decide) (by decide), ?_⟩
  conv => whnf
  refine ⟨by show 2 * s + 1 ≠ 0; omega, div_ok (n := 210) (bd210 (by omega) (by omega)) (by decide), fun r3 _ _ => ?_⟩
  conv => whnf
  refine ⟨by show s ≠ 0; omega, fun b _ hb => ?_⟩
  have hb : b = r3 % s := hb (by omega)
  have b0 := Int.emod_nonneg r3 (show s ≠ 0 by omega)
  have b1 := Int.emod_lt_of_pos r3 (show 0 < s by omega)
  conv => whnf
  have c0 : 0 < 1 + b := by omega
  have bb : Bd 210 (1 + b) := bd210 (by omega) (by omega)
  refine gC g136 ⟨x, y, 1 + b, rfl, c0, bb.mono (by decide), ?_⟩
  have r := q _ (ptb_low c0 (bd210 (x := x) (by omega) (by omega)) (bd210 (x := y) (by omega) (by omega)) bb)
  unfold ptD PD at r
  rw [← plow_eq c0] at r
  exact r
def sp_law_places : DSp := fun ds Q X => ∃ (cs : List Int) (free : Int), ds = [.list (cs.map .int), .int free] ∧ cs.length ≤ 400 ∧ 0 ≤ free ∧ free ≤ 60 ∧ ∀ ps : List Pt, ps.length = cs.length → (∀ p ∈ ps, PtB 210 p) → Q (.d (.list (ps.map ptD))) ∧ Q (.l (ps.map ptD) true)
theorem p_law_places {G : Nat → DSp} (g300 : G 300 = sp_law_place_free) (g298 : G 298 = sp_law_place_by_2) : FnW G 4 2 m_law_places sp_law_places := by
  intro ds Q X ⟨cs, free, e, hl, f0, f1, q⟩
  subst e
  refine ⟨rfl, ?_⟩
  conv => whnf
  refine wIf.mk (fun h => ?_) (fun h => ?_)
  · have h : 0 < free := of_decide_eq_true h
    conv => whnf
    refine lc_each (t := .nm 2) PyData.int ptD (PtB 210) cs (fun c _ k2 hk2 => ?_) fun ps h1 h2 => ?_
    · conv => whnf
      refine gC g300 ⟨c, free, rfl, by omega, f1, fun p hp => ?_⟩
      exact hk2 p hp
    · conv => whnf
      exact (q ps h1 h2).2
  · ((conv => whnf); repeat (first | (refine wIf_tt ?_; conv => whnf) | (refine wIf_ff ?_; conv => whnf) | (refine ⟨(by decide : (_ : Int) ≠ 0), fun w _ hw => ?_⟩; replace hw := hw (by decide); conv => whnf) | (refine ⟨(by decide : (_ : Int) ≠ 0), div_lit (by decide), fun w _ hw => ?_⟩; replace hw := hw (by decide); conv => whnf) | (refine eq_rD ?_; conv => whnf) | (refine eq_ts ?_; conv => whnf) | (refine ne_ts ?_; conv => whnf) | (refine ne_rD ?_; conv => whnf) | (refine eq_vD ?_; conv => whnf) | (refine ne_vD ?_; conv => whnf) | (refine ⟨isi_ok rfl, ?_⟩; conv => whnf) | (apply wMulS.mk; (first | exact mul_l (by decide) (by decide) | exact mul_r (by decide) (by decide) | exact mul_ok (by l_ints) (by l_ints) (by decide)); conv => whnf) | (refine ⟨⟨by decide, by decide, by decide⟩, ?_⟩; conv => whnf) | (refine ⟨⟨by decide, by decide, by omega⟩, ?_⟩; conv => whnf) | (refine ⟨small_sz (Nat.le_of_ble_eq_true rfl), ?_⟩; conv => whnf) | fail))
    refine ⟨rfl, ?_⟩
    refine forLoop_ind (fun ds ρ => ∃ (us zs : List Int) (ps : List Pt) (a : Option DL.R), us ++ zs = cs ∧ ds = zs.map .int ∧ ps.length = us.length ∧ (∀ p ∈ ps, PlS p) ∧ ρ = [some (.d (.list (cs.map .int))), some (.d (.int free)), a, some (.l (ps.map ptD) true)]) ?_ ?_ _ _ ⟨[], cs, [], _, rfl, rfl, rfl, by simp, rfl⟩
    · rintro ρ ⟨us, zs, ps, a, e1, e2, e3, e4, rfl⟩
      have : zs = [] := by simpa using e2.symm
      subst this
      rw [List.append_nil] at e1
      subst e1
      conv => whnf
      exact (q ps e3 fun p hp => (e4 p hp).ptb.mono (by decide)).1
    · rintro d ds ρ ⟨us, zs, ps, a, e1, e2, e3, e4, rfl⟩ nx hnx
      cases zs with
      | nil => cases e2
      | cons z zs =>
        cases e2
        have lu : us.length + 1 ≤ cs.length := by
          have := congrArg List.length e1
          simp at this
          omega
        refine ⟨ps.map ptD, true, rfl, ?_⟩
        conv => whnf
        refine ⟨small_lt (by simp; omega), ?_⟩
        refine gC g298 ⟨z, ps, rfl, by omega, e4, fun r hr => ?_⟩
        refine ⟨[(plc r.1 r.2).1, (plc r.1 r.2).2.1, (plc r.1 r.2).2.2], rfl, ?_⟩
        refine hnx _ ⟨us ++ [z], zs, ps ++ [r], _, by rw [← e1]; simp, rfl, by simp [e3], fun p hp => ?_, by rw [List.map_append]; rfl⟩
        rcases List.mem_append.mp hp with h | h
        · exact e4 p h
        · rw [List.mem_singleton.mp h]; exact hr
end DL
end
section
namespace DL
def m_law_bearing_by : Ss := (.cons (.set 1 (.call 137 (.cons (.v 0) (.cons (.int 3) .nil)))) (.cons (.set 2 (.tup (.cons (.bin .Sub (.bin .Mod (.v 1) (.int 9)) (.int 4)) (.cons (.bin .Sub (.bin .Mod (.bin .FloorDiv (.v 1) (.int 9)) (.int 9)) (.int 4)) .nil)))) (.cons (.ifs (.cmp .Eq (.bin .Mod (.bin .FloorDiv (.v 1) (.int 81)) (.int 5)) (.int 1)) (.cons (.set 2 (.tup (.cons (.bin .Sub (.bin .Mod (.v 0) (.bin .Add (.bin .Mult (.int 2) (.bin .Pow (.int 10) (.int 20))) (.int 1))) (.bin .Pow (.int 10) (.int 20))) (.cons (.bin .Sub (.bin .Mod (.bin .FloorDiv (.v 1) (.int 405)) (.int 1000)) (.int 500)) .nil)))) .nil) .nil) (.cons (.ifs (.cmp .Eq (.v 2) (.tup (.cons (.int 0) (.cons (.int 0) .nil)))) (.cons (.ret (.tup (.cons (.int 0) (.cons (.int 1) .nil)))) .nil) .nil) (.cons (.ret (.v 2)) .nil)))))
end DL
end
section
namespace DL
def m_law_bearing_free : Ss := (.cons (.set 2 (.call 299 (.cons (.bin .Add (.int 1) (.bin .Mod (.v 0) (.v 1))) .nil))) (.cons (.set 3 (.bin .FloorDiv (.v 0) (.v 1))) (.cons (.set 4 (.tup (.cons (.call 140 (.cons (.v 3) (.cons (.v 2) .nil))) (.cons (.call 140 (.cons (.bin .FloorDiv (.v 3) (.bin .Add (.bin .Mult (.int 2) (.v 2)) (.int 1))) (.cons (.v 2) .nil))) .nil)))) (.cons (.ifs (.cmp .Eq (.v 4) (.tup (.cons (.int 0) (.cons (.int 0) .nil)))) (.cons (.ret (.tup (.cons (.int 0) (.cons (.int 1) .nil)))) .nil) .nil) (.cons (.ret (.v 4)) .nil)))))
end DL
end
section
set_option maxRecDepth 100000
set_option maxHeartbeats 4000000
set_option exponentiation.threshold 100000
namespace DL
open PySem L2
local macro_rules | `(tactic| l_ints) => `(tactic| first | (assumption) | (apply Bd.neg; l_ints) | (apply Bd.mul <;> l_ints) | (exact bd40 (by omega) (by omega)) | (apply Bd.add <;> l_ints) | (apply Bd.sub <;> l_ints) | (exact bd130 (by omega) (by omega)) | (exact bd210 (by omega) (by omega)) | (exact bd_self _) | fail)
def sp_law_bearing_by : DSp := fun ds Q X => ∃ (c : Int), ds = [.int c] ∧ ∀ b : Vec, VB 210 b → b ≠ (0, 0) → Q (.d (vD b))
theorem p_law_bearing_by {G : Nat → DSp} (g137 : G 137 = sp_law_mixed) : FnW G 3 1 m_law_bearing_by sp_law_bearing_by := by
  intro ds Q X ⟨c, e, q⟩
  subst e
  refine ⟨rfl, ?_⟩
  have h20 : (10 : Int) ^ (20 : Int).toNat = 10 ^ 20 := rfl
  have fin : ∀ (z : Int) (b : Vec), VB 210 b → wSs G (Ss.dr 3 m_law_bearing_by) (endOf Q X) [some (.d (.int c)), some (.d (.int z)), some (.d (vD b))] := by
    intro z b hb
    conv => whnf
    refine ⟨small_sz (by simp), ?_⟩
    conv => whnf
    refine eq_vD ?_
    conv => whnf
    refine wIf.mk (fun h => ?_) (fun h => ?_)
    · conv => whnf
      refine ⟨small_sz (by simp), ?_⟩
      exact q (0, 1) ⟨by decide, by decide⟩ (by decide)
    · exact q b hb (of_decide_eq_false h)
  conv => whnf
  refine gC g137 ⟨c, 3, rfl, by decide, by decide, fun z z0 z1 => ?_⟩
  conv => whnf
  refine ⟨by decide, fun w1 _ hw1 => ?_⟩
  have hw1 : w1 = z % 9 := hw1 (by decide)
  conv => whnf
  refine ⟨by decide, div_lit (by decide), fun w2 _ hw2 => ?_⟩
  have hw2 : w2 = z / 9 := hw2 (by decide)
  conv => whnf
  refine ⟨by decide, fun w3 _ hw3 => ?_⟩
  have hw3 : w3 = w2 % 9 := hw3 (by decide)
  conv => whnf
  refine ⟨small_sz (by simp), ?_⟩
  conv => whnf
  refine ⟨by decide, div_lit (by decide), fun w4 _ hw4 => ?_⟩
  conv => whnf
  refine ⟨by decide, fun w5 _ hw5 => ?_⟩
  conv => whnf
  refine wIf.mk (fun h => ?_) (fun h => ?_)
  · conv => whnf
    refine ⟨⟨by decide, by decide, by decide⟩, ?_⟩
    conv => whnf
    refine ⟨mul_l (by decide) (by decide), ?_⟩
    conv => whnf
    refine ⟨by rw [h20]; decide, fun w6 _ hw6 => ?_⟩
    rw [h20] at hw6
    have hw6 := hw6 (by decide)
    conv => whnf
    refine ⟨⟨by decide, by decide, by decide⟩, ?_⟩
    conv => whnf
    refine ⟨by decide, div_lit (by decide), fun w7 _ hw7 => ?_⟩
    conv => whnf
    refine ⟨by decide, fun w8 _ hw8 => ?_⟩
    have hw8 := hw8 (by decide)
    conv => whnf
    refine ⟨small_sz (by simp), ?_⟩
    conv => whnf
    rw [h20]
    exact fin z (w6 - 10 ^ 20, w8 - 500) ⟨bd210 (by dsimp only; omega) (by dsimp only; omega), bd210 (by dsimp only; omega) (by dsimp only; omega)⟩
  · exact fin z (w1 - 4, w3 - 4) ⟨bd210 (by dsimp only; omega) (by dsimp only; omega), bd210 (by dsimp only; omega) (by dsimp only; omega)⟩
def sp_law_bearing_free : DSp := fun ds Q X => ∃ (c k : Int), ds = [.int c, .int k] ∧ 1 ≤ k ∧ k ≤ 60 ∧ ∀ b : Vec, VB 210 b → b ≠ (0, 0) → Q (.d (vD b))
theorem p_law_bearing_free {G : Nat → DSp} (g299 : G 299 = sp_law_size_4) (g140 : G 140 = sp_law_digit_r) : FnW G 5 2 m_law_bearing_free sp_law_bearing_free := by
  intro ds Q X ⟨c, k, e, k1, k2, q⟩
  subst e
  refine ⟨rfl, ?_⟩
  conv => whnf
  refine ⟨by show k ≠ 0; omega, fun w _ hw => ?_⟩
  have hw : w = c % k := hw (by omega)
  have w0 := Int.emod_nonneg c (show k ≠ 0 by omega)
  have w1 := Int.emod_lt_of_pos c (show 0 < k by omega)
  obtain ⟨n, hn⟩ : ∃ n : Nat, 1 + w = n := ⟨(1 + w).toNat, by omega⟩
  conv => whnf
  rw [hn]
  refine gC g299 ⟨n, rfl, by omega, ?_⟩
  have s1 : ((10 ^ n : Nat) : Int) ≤ 10 ^ 60 := ten_pow_le (by omega)
  have s0 : (1 : Int) ≤ ((10 ^ n : Nat) : Int) := by
    have := Nat.pow_pos (n := n) (show 0 < 10 by decide)
    omega
  generalize ((10 ^ n : Nat) : Int) = s at s0 s1
  conv => whnf
  refine ⟨by show k ≠ 0; omega, div_ok (n := 10) (bd_of (by omega) (by omega)) (by decide), fun r _ _ => ?_⟩
  conv => whnf
  refine gC g140 ⟨r, s, rfl, by omega, s1, fun x x0 x1 => ?_⟩
  conv => whnf
  refine ⟨mul_l (by decide) (by decide), ?_⟩
  conv => whnf
  refine ⟨by show 2 * s + 1 ≠ 0; omega, div_ok (n := 210) (bd210 (by omega) (by omega)) (by decide), fun r2 _ _ => ?_⟩
  conv => whnf
  refine gC g140 ⟨r2, s, rfl, by omega, s1, fun y y0 y1 => ?_⟩
  conv => whnf
  refine ⟨small_sz (by simp), ?_⟩
  conv => whnf
  refine ⟨small_sz (by simp), ?_⟩
  conv => whnf
  refine eq_vD ?_
  conv => whnf
  refine wIf.mk (fun h => ?_) (fun h => ?_)
  · conv => whnf
    refine ⟨small_sz (by simp), ?_⟩
    exact q (0, 1) ⟨by decide, by decide⟩ (by decide)
  · exact q (x, y) ⟨bd210 (by dsimp only; omega) (by dsimp only; omega), bd210 (by dsimp only; omega) (by dsimp only; omega)⟩ (of_decide_eq_false h)
end DL
end
section
namespace DL
end DL
end
section
namespace DL
end DL
end
section
namespace DL
end DL
end
section
set_option maxRecDepth 100000
set_option maxHeartbeats 4000000
set_option exponentiation.threshold 100000
namespace DL
open PySem L2
local macro_rules | `(tactic| l_ints) => `(tactic| first | (assumption) | (apply Bd.neg; l_ints) | (apply Bd.mul <;> l_ints) | (exact bd40 (by omega) (by omega)) | (apply Bd.add <;> l_ints) | (apply Bd.sub <;> l_ints) | (exact bd130 (by omega) (by omega)) | (exact bd210 (by omega) (by omega)) | (exact bd_self _) | fail)
end DL
end
section
set_option maxRecDepth 100000
set_option maxHeartbeats 4000000
set_option exponentiation.threshold 100000
namespace DL
open PySem L2
theorem ptD_inj {p q : Pt} (h : ptD p = ptD q) : p = q := by
  have e := eqv_pt p q
  rw [← h] at e
  have e2 := eqv_pt p p
  rw [decide_eq_true rfl] at e2
  rw [e2] at e
  exact of_decide_eq_true e.symm
theorem map_ptD_inj : ∀ {L M : List Pt}, L.map ptD = M.map ptD → L = M
  | [], [], _ => rfl
  | [], b :: M, h => by cases h
  | a :: L, [], h => by cases h
  | a :: L, b :: M, h => by
    rw [List.map_cons, List.map_cons, List.cons.injEq] at h
    rw [ptD_inj h.1, map_ptD_inj h.2]
def crB (B : Int) (ps : List Pt) : List Pt := (hull (ps.map (vOf B))).map (ptOf B)
theorem crB_any {ps : List Pt} {B C : Int} (B0 : 0 < B) (C0 : 0 < C) (h : ∀ p ∈ ps, bot p ∣ B) (g : ∀ p ∈ ps, bot p ∣ C) : crB B ps = crB C ps := by
  refine map_ptD_inj ?_
  have := crnP_any B0 C0 h g
  unfold crnP at this
  rw [pv_map, pv_map] at this
  exact this
theorem crB_mem {ps : List Pt} {B : Int} {p : Pt} (B0 : 0 < B) (dv : ∀ a ∈ ps, bot a ∣ B) (h : p ∈ crB B ps) : p ∈ ps := by
  obtain ⟨v, hv, rfl⟩ := List.mem_map.mp h
  obtain ⟨a, ha, rfl⟩ := List.mem_map.mp (hull_in hv)
  rw [ptOf_vOf B0 (dv a ha)]
  exact ha
theorem crB_D (B : Int) (ps : List Pt) : (hull (ps.map (vOf B))).map (pv B) = (crB B ps).map ptD := pv_map B _
end DL
end
section
namespace DL
end DL
end
section
set_option maxRecDepth 100000
set_option maxHeartbeats 4000000
set_option exponentiation.threshold 100000
namespace DL
open PySem L2
local macro_rules | `(tactic| l_ints) => `(tactic| first | (assumption) | (apply Bd.neg; l_ints) | (apply Bd.mul <;> l_ints) | (exact bd40 (by omega) (by omega)) | (apply Bd.add <;> l_ints) | (apply Bd.sub <;> l_ints) | (exact bd130 (by omega) (by omega)) | (exact bd210 (by omega) (by omega)) | (exact bd_self _) | fail)
def allB (ps : List Pt) : Int := ps.foldr (fun p b => bot p * b) 1
theorem allB_pos : ∀ ps : List Pt, 0 < allB ps
  | [] => by decide
  | p :: ps => Int.mul_pos (bot_pos p) (allB_pos ps)
theorem allB_dvd : ∀ {ps : List Pt} {p : Pt}, p ∈ ps → bot p ∣ allB ps
  | [], p, h => by cases h
  | q :: ps, p, h => by
    rcases List.mem_cons.mp h with h | h
    · rw [h]; exact Int.dvd_mul_right ..
    · exact Int.dvd_trans (allB_dvd h) (Int.dvd_mul_left ..)
end DL
end
section
namespace DL
def m_area_farthest : Ss := (.cons (.set 2 .non) (.cons (.for_ (.nm 3) (.ex (.v 0)) (.cons (.set 4 (.call 26 (.cons (.v 1) (.cons (.v 3) .nil)))) (.cons (.ifs (.or (.isN (.v 2)) (.call 15 (.cons (.v 2) (.cons (.v 4) .nil)))) (.cons (.set 2 (.v 4)) .nil) .nil) .nil))) (.cons (.ret (.v 2)) .nil)))
end DL
end
section
namespace DL
def m_law_along_2 : Ss := (.cons (.set 2 (.bin .Add (.bin .Mult (.ix (.v 0) (.int 0)) (.ix (.v 1) (.int 0))) (.bin .Mult (.ix (.v 0) (.int 1)) (.ix (.v 1) (.int 1))))) (.cons (.set 3 (.call 135 (.cons (.v 2) (.cons (.ix (.v 1) (.int 2)) .nil)))) (.cons (.ret (.tup (.cons (.bin .FloorDiv (.v 2) (.v 3)) (.cons (.bin .FloorDiv (.ix (.v 1) (.int 2)) (.v 3)) .nil)))) .nil)))
end DL
end
section
namespace DL
def m_law_less : Ss := (.cons (.ret (.cmp .Lt (.bin .Mult (.ix (.v 0) (.int 0)) (.ix (.v 1) (.int 1))) (.bin .Mult (.ix (.v 1) (.int 0)) (.ix (.v 0) (.int 1))))) .nil)
end DL
end
section
namespace DL
def m_law_due_4 : Ss := (.cons (.set 2 (.call 311 (.cons (.v 1) (.cons (.ix (.v 0) (.int 0)) .nil)))) (.cons (.for_ (.nm 3) (.ex (.v 0)) (.cons (.ifs (.call 312 (.cons (.v 2) (.cons (.call 311 (.cons (.v 1) (.cons (.v 3) .nil))) .nil))) (.cons (.set 2 (.call 311 (.cons (.v 1) (.cons (.v 3) .nil)))) .nil) .nil) .nil)) (.cons (.ret (.v 2)) .nil)))
end DL
end
section
namespace DL
def m_law_right_8 : Ss := (.cons (.set 2 (.call 310 (.cons (.call 296 (.cons (.bi .tuple1 (.cons (.v 0) .nil)) .nil)) (.cons (.v 1) .nil)))) (.cons (.ifs (.or (.not (.isi (.v 2) "tuple")) (.or (.cmp .NotEq (.bi .len (.cons (.v 2) .nil)) (.int 2)) (.or (.not (.call 134 (.cons (.ix (.v 2) (.int 0)) .nil))) (.not (.call 134 (.cons (.ix (.v 2) (.int 1)) .nil)))))) (.cons (.ret (.bl false)) .nil) .nil) (.cons (.ret (.cmp .Eq (.v 2) (.call 315 (.cons (.v 0) (.cons (.v 1) .nil))))) .nil)))
end DL
end
section
set_option maxRecDepth 100000
set_option maxHeartbeats 4000000
set_option exponentiation.threshold 100000
namespace DL
open PySem L2
local macro_rules | `(tactic| l_ints) => `(tactic| first | (assumption) | (apply Bd.neg; l_ints) | (apply Bd.mul <;> l_ints) | (exact bd40 (by omega) (by omega)) | (apply Bd.add <;> l_ints) | (apply Bd.sub <;> l_ints) | (exact bd130 (by omega) (by omega)) | (exact bd210 (by omega) (by omega)) | (exact bd_self _) | fail)
def alQ (b : Vec) (p : Pt) : Rat := (b.1 : Rat) * p.1 + (b.2 : Rat) * p.2
theorem alQ_eq (b : Vec) (p : Pt) : alQ b p = Rat.divInt (b.1 * (plc p.1 p.2).1 + b.2 * (plc p.1 p.2).2.1) (bot p) := (along_eq b.1 b.2 p.1 p.2).symm
theorem rb_al {b : Vec} {p : Pt} {m k : Nat} (hb : VB m b) (hp : PtB k p) : RB (m + k + 1) (alQ b p) := by
  rw [alQ_eq]
  have b0 := bot_pos p
  exact RB.divInt (((hb.1.mul hp.x).add (hb.2.mul hp.y)).mono (by omega)) (hp.b.mono (by omega)) (by omega)
theorem divInt_le {x y B : Int} (B0 : 0 < B) : Rat.divInt x B ≤ Rat.divInt y B ↔ x ≤ y := by
  have e : Rat.divInt y B - Rat.divInt x B = Rat.divInt (y - x) B := by
    rw [Rat.divInt_eq_div, Rat.divInt_eq_div, Rat.divInt_eq_div, Rat.intCast_sub]
    grind
  have h : 0 ≤ Rat.divInt (y - x) B ↔ 0 ≤ y - x := Rat.divInt_nonneg_iff_of_pos_right B0
  rw [← e] at h
  constructor
  · intro g
    have := h.mp (by grind)
    omega
  · intro g
    have := h.mpr (by omega)
    grind
theorem alQ_pt (b : Vec) (B : Int) (v : Vec) : alQ b (ptOf B v) = Rat.divInt (dot v b) B := by
  unfold alQ ptOf dot
  dsimp only
  rw [Rat.divInt_eq_div, Rat.divInt_eq_div, Rat.divInt_eq_div, Rat.intCast_add, Rat.intCast_mul, Rat.intCast_mul]
  grind
def FarP (L : List Pt) (b : Vec) (r : Rat) : Prop := (∃ p ∈ L, alQ b p = r) ∧ ∀ p ∈ L, alQ b p ≤ r
theorem far_same {ps : List Pt} {B : Int} {b : Vec} {r s : Rat} (B0 : 0 < B) (dv : ∀ p ∈ ps, bot p ∣ B) (h : FarP (crB B ps) b r) (g : FarP ps b s) : r = s := by
  obtain ⟨⟨p, hp, e1⟩, h2⟩ := h
  obtain ⟨⟨u, hu, f1⟩, g2⟩ := g
  refine Rat.le_antisymm ?_ ?_
  · rw [← e1]
    exact g2 p (crB_mem B0 dv hp)
  · rw [← f1]
    have ne : ps.map (vOf B) ≠ [] := by simpa using List.ne_nil_of_mem hu
    obtain ⟨⟨w, hw, e⟩, _⟩ := farV_spec (hull (ps.map (vOf B))) b (hull_ne ne)
    rw [far_hull ne] at e
    have k1 := (farV_spec (ps.map (vOf B)) b ne).2 (vOf B u) (List.mem_map.mpr ⟨u, hu, rfl⟩)
    have k2 := h2 (ptOf B w) (List.mem_map.mpr ⟨w, hw, rfl⟩)
    refine Rat.le_trans ?_ k2
    rw [alQ_pt, ← ptOf_vOf B0 (dv u hu), alQ_pt]
    exact (divInt_le B0).mpr (by omega)
def sp_area_farthest : DSp := fun ds Q X => ∃ (L : List Pt) (b : Vec) (k m : Nat), ds = [.tuple (L.map ptD), vD b] ∧ (∀ p ∈ L, PtB k p) ∧ VB m b ∧ k + m ≤ 8000 ∧ (L = [] → Q (.d .none)) ∧ (L ≠ [] → ∀ r, FarP L b r → Q (.d (rD r)))
theorem p_area_farthest {G : Nat → DSp} (g26 : G 26 = sp_along) (g15 : G 15 = sp_is_before) : FnW G 5 2 m_area_farthest sp_area_farthest := by
  intro ds Q X ⟨L, b, k, m, e, hb, hv, hm, q0, q1⟩
  subst e
  refine ⟨rfl, ?_⟩
  conv => whnf
  refine ⟨rfl, ?_⟩
  refine forLoop_ind (fun ds ρ => ∃ (us zs : List Pt) (mo : D) (x y : Option DL.R), us ++ zs = L ∧ ds = zs.map ptD ∧ (us = [] ∧ mo = .none ∨ us ≠ [] ∧ ∃ r, FarP us b r ∧ mo = rD r) ∧ ρ = [some (.d (.tuple (L.map ptD))), some (.d (vD b)), some (.d mo), x, y]) ?_ ?_ _ _ ⟨[], L, .none, _, _, rfl, rfl, .inl ⟨rfl, rfl⟩, rfl⟩
  · rintro ρ ⟨us, zs, mo, x, y, e1, e2, h, rfl⟩
    have : zs = [] := by simpa using e2.symm
    subst this
    rw [List.append_nil] at e1
    subst e1
    conv => whnf
    rcases h with ⟨h1, rfl⟩ | ⟨h1, r, h2, rfl⟩
    · exact q0 h1
    · exact q1 h1 r h2
  · rintro d ds ρ ⟨us, zs, mo, x, y, e1, e2, h, rfl⟩ nx hnx
    cases zs with
    | nil => cases e2
    | cons p zs =>
      cases e2
      have pm : p ∈ L := by rw [← e1]; simp
      have pb := hb p pm
      have rp := rb_al hv pb
      conv => whnf
      refine gC g26 ⟨b.1, b.2, p.1, p.2, k, m, rfl, ⟨pb.x, pb.y, pb.b⟩, hv.1, hv.2, by omega, ?_⟩
      have snoc : ∀ r, FarP (us ++ [p]) b r → nx [some (.d (.tuple (L.map ptD))), some (.d (vD b)), some (.d (rD r)), some (.d (ptD p)), some (.d (rD (alQ b p)))] := fun r hr => hnx _ ⟨us ++ [p], zs, _, _, _, by rw [← e1]; simp, rfl, .inr ⟨by simp, r, hr, rfl⟩, rfl⟩
      rcases h with ⟨rfl, rfl⟩ | ⟨h1, r, h2, rfl⟩
      · ((conv => whnf); repeat' (first | (refine wIf_tt ?_; conv => whnf) | (refine wIf_ff ?_; conv => whnf) | (refine wIf.mk (fun hif => (have hif := of_decide_eq_true hif; ?_)) (fun hif => (have hif := of_decide_eq_false hif; ?_)) <;> (conv => whnf)) | (refine wIf_not ?_) | (refine ⟨(by decide : (_ : Int) ≠ 0), fun w _ hw => ?_⟩; replace hw := hw (by decide); conv => whnf) | (refine ⟨(by decide : (_ : Int) ≠ 0), div_lit (by decide), fun w _ hw => ?_⟩; replace hw := hw (by decide); conv => whnf) | (refine eq_rD ?_; conv => whnf) | (refine eq_ts ?_; conv => whnf) | (refine ne_ts ?_; conv => whnf) | (refine ne_rD ?_; conv => whnf) | (refine eq_vD ?_; conv => whnf) | (refine ne_vD ?_; conv => whnf) | (refine ⟨isi_ok rfl, ?_⟩; conv => whnf) | (apply wMulS.mk; (first | exact mul_l (by decide) (by decide) | exact mul_r (by decide) (by decide) | exact mul_ok (by l_ints) (by l_ints) (by decide)); conv => whnf) | (refine ⟨⟨by decide, by decide, by decide⟩, ?_⟩; conv => whnf) | (refine ⟨⟨by decide, by decide, by omega⟩, ?_⟩; conv => whnf) | (refine ⟨small_sz (Nat.le_of_ble_eq_true rfl), ?_⟩; conv => whnf) | fail))
        exact snoc _ ⟨⟨p, by simp, rfl⟩, fun u hu => by rw [List.mem_singleton.mp hu]; exact Rat.le_refl⟩
      · have rr : RB (m + k + 1) r := by
          obtain ⟨u, hu, e⟩ := h2.1
          rw [← e]
          exact rb_al hv (hb u (by rw [← e1]; simp [hu]))
        conv => whnf
        refine wIf_ff ?_
        conv => whnf
        refine gC g15 ⟨r, alQ b p, _, _, rfl, rr, rp, by omega, ?_⟩
        conv => whnf
        refine wIf.mk (fun hc => ?_) (fun hc => ?_)
        · have hc := of_decide_eq_true hc
          refine snoc (alQ b p) ⟨⟨p, by simp, rfl⟩, fun u hu => ?_⟩
          rcases List.mem_append.mp hu with h | h
          · exact Rat.le_trans (h2.2 u h) (Rat.le_of_lt hc)
          · rw [List.mem_singleton.mp h]; exact Rat.le_refl
        · have hc := of_decide_eq_false hc
          obtain ⟨⟨u, hu, e⟩, g⟩ := h2
          refine snoc r ⟨⟨u, by simp [hu], e⟩, fun v hv => ?_⟩
          rcases List.mem_append.mp hv with h | h
          · exact g v h
          · rw [List.mem_singleton.mp h]
            grind
def sp_law_along_2 : DSp := sp_along
theorem p_law_along_2 {G : Nat → DSp} (g135 : G 135 = sp_law_measure_2) : FnW G 4 2 m_law_along_2 sp_law_along_2 := by
  intro ds Q X ⟨a, b, e, n, k, m, e0, h, ha, hb, l, q⟩
  subst e0
  refine ⟨rfl, ?_⟩
  have h1 := plc_pos e n
  conv => whnf
  refine ⟨mul_ok ha h.1 (by omega), ?_⟩
  conv => whnf
  refine ⟨mul_ok hb h.2.1 (by omega), ?_⟩
  conv => whnf
  refine gC g135 ⟨_, _, rfl, ?_⟩
  rw [← along_eq] at q
  generalize a * (plc e n).1 + b * (plc e n).2.1 = far at *
  have gp : 0 < Int.gcd far (plc e n).2.2 := Int.gcd_pos_of_ne_zero_right _ (by omega)
  have gb : Bd 8999 ((Int.gcd far (plc e n).2.2 : Nat) : Int) := (gcd_bd (a := far) (h.2.2.mono (show k ≤ 8990 by omega)) (by omega)).mono (by decide)
  obtain ⟨f1, f2⟩ := low_num (a := far) (b := (plc e n).2.2) (by omega) _ rfl
  rw [if_neg (by omega)] at f1 f2
  conv => whnf
  refine ⟨by omega, div_ok gb (by decide), fun u hu _ => ?_⟩
  conv => whnf
  refine ⟨by omega, div_ok gb (by decide), fun v hv _ => ?_⟩
  conv => whnf
  refine ⟨small_sz (by simp), ?_⟩
  conv => whnf
  rw [hu, hv, f1, f2]
  exact q
def sp_law_less : DSp := sp_is_before
theorem p_law_less {G : Nat → DSp} : FnW G 2 2 m_law_less sp_law_less := by
  intro ds Q X ⟨r, s, m, n, e, hr, hs, l, q⟩
  subst e
  refine ⟨rfl, ?_⟩
  conv => whnf
  refine ⟨mul_ok hr.1 hs.2 (by omega), ?_⟩
  conv => whnf
  refine ⟨mul_ok hs.1 hr.2 (by omega), ?_⟩
  conv => whnf
  have e : decide (r.num * (s.den : Int) < s.num * (r.den : Int)) = decide (r < s) := by
    rw [Bool.eq_iff_iff, decide_eq_true_iff, decide_eq_true_iff, Rat.lt_iff]
  rw [← e] at q
  exact q
def sp_law_due_4 : DSp := fun ds Q X => ∃ (L : List Pt) (b : Vec) (k m : Nat), ds = [.list (L.map ptD), vD b] ∧ L ≠ [] ∧ (∀ p ∈ L, PtB k p) ∧ VB m b ∧ k + m ≤ 8000 ∧ ∀ r, FarP L b r → Q (.d (rD r))
theorem p_law_due_4 {G : Nat → DSp} (g311 : G 311 = sp_law_along_2) (g312 : G 312 = sp_law_less) : FnW G 4 2 m_law_due_4 sp_law_due_4 := by
  intro ds Q X ⟨L, b, k, m, e, ne, hb, hv, hm, q⟩
  subst e
  refine ⟨rfl, ?_⟩
  obtain ⟨p0, hp0, e0⟩ := atI_maps (f := ptD) (xs := L) (i := 0) (by omega) (by have := List.length_pos_iff.mpr ne; omega)
  have pb0 := hb p0 hp0
  conv => whnf
  rw [e0]
  conv => whnf
  refine gC g311 ⟨b.1, b.2, p0.1, p0.2, k, m, rfl, ⟨pb0.x, pb0.y, pb0.b⟩, hv.1, hv.2, by omega, ?_⟩
  refine ⟨rfl, ?_⟩
  refine forLoop_ind (fun ds ρ => ∃ (us zs : List Pt) (r : Rat) (x : Option DL.R), us ++ zs = L ∧ ds = zs.map ptD ∧ FarP (us ++ [p0]) b r ∧ ρ = [some (.d (.list (L.map ptD))), some (.d (vD b)), some (.d (rD r)), x]) ?_ ?_ _ _ ⟨[], L, _, _, rfl, rfl, ⟨⟨p0, by simp, rfl⟩, fun u hu => by simp at hu; rw [hu]; exact Rat.le_refl⟩, rfl⟩
  · rintro ρ ⟨us, zs, r, x, e1, e2, h, rfl⟩
    have : zs = [] := by simpa using e2.symm
    subst this
    rw [List.append_nil] at e1
    subst e1
    conv => whnf
    refine q r ⟨?_, fun u hu => h.2 u (by simp [hu])⟩
    obtain ⟨u, hu, e⟩ := h.1
    rcases List.mem_append.mp hu with h | h
    · exact ⟨u, h, e⟩
    · exact ⟨p0, hp0, by rw [← e, List.mem_singleton.mp h]⟩
  · rintro d ds ρ ⟨us, zs, r, x, e1, e2, h, rfl⟩ nx hnx
    cases zs with
    | nil => cases e2
    | cons p zs =>
      cases e2
      have pm : p ∈ L := by rw [← e1]; simp
      have pb := hb p pm
      have rp := rb_al hv pb
      have rr : RB (m + k + 1) r := by
        obtain ⟨u, hu, e⟩ := h.1
        rw [← e]
        refine rb_al hv (hb u ?_)
        rcases List.mem_append.mp hu with h | h
        · rw [← e1]; simp [h]
        · rw [List.mem_singleton.mp h]; exact hp0
      have snoc : ∀ r, FarP (us ++ [p] ++ [p0]) b r → nx [some (.d (.list (L.map ptD))), some (.d (vD b)), some (.d (rD r)), some (.d (ptD p))] := fun r hr => hnx _ ⟨us ++ [p], zs, _, _, by rw [← e1]; simp, rfl, hr, rfl⟩
      conv => whnf
      refine gC g311 ⟨b.1, b.2, p.1, p.2, k, m, rfl, ⟨pb.x, pb.y, pb.b⟩, hv.1, hv.2, by omega, ?_⟩
      conv => whnf
      refine gC g312 ⟨r, alQ b p, _, _, rfl, rr, rp, by omega, ?_⟩
      conv => whnf
      refine wIf.mk (fun hc => ?_) (fun hc => ?_)
      · have hc := of_decide_eq_true hc
        conv => whnf
        refine gC g311 ⟨b.1, b.2, p.1, p.2, k, m, rfl, ⟨pb.x, pb.y, pb.b⟩, hv.1, hv.2, by omega, ?_⟩
        refine snoc _ ⟨⟨p, by simp, rfl⟩, fun u hu => ?_⟩
        by_cases c : u = p
        · rw [c]; exact Rat.le_refl
        · have := h.2 u (by simp [c] at hu ⊢; exact hu)
          have e9 : alQ b p = ↑b.1 * p.1 + ↑b.2 * p.2 := rfl
          grind
      · have hc := of_decide_eq_false hc
        obtain ⟨⟨u, hu, e⟩, g⟩ := h
        refine snoc r ⟨⟨u, by simp at hu ⊢; rcases hu with h | h <;> simp [h], e⟩, fun v hv => ?_⟩
        by_cases c : v = p
        · rw [c]
          grind
        · exact g v (by simp [c] at hv ⊢; exact hv)
def sp_law_right_8 : DSp := fun ds Q X => ∃ (ps : List Pt) (b : Vec), ds = [.list (ps.map ptD), vD b] ∧ ps ≠ [] ∧ ps.length ≤ 100 ∧ (∀ p ∈ ps, PtB 210 p) ∧ VB 210 b ∧ Q (.d (.bool true))
theorem p_law_right_8 {G : Nat → DSp} (g310 : G 310 = sp_area_farthest) (g296 : G 296 = sp_area_of) (g134 : G 134 = sp_law_whole_2) (g315 : G 315 = sp_law_due_4) : FnW G 3 2 m_law_right_8 sp_law_right_8 := by
  intro ds Q X ⟨ps, b, e, ne, hl, hb, hv, q⟩
  subst e
  refine ⟨rfl, ?_⟩
  obtain ⟨B, eB⟩ : ∃ B, B = allB ps := ⟨_, rfl⟩
  have B0 : 0 < B := by rw [eB]; exact allB_pos ps
  have dv : ∀ p ∈ ps, bot p ∣ B := fun p hp => by rw [eB]; exact allB_dvd hp
  conv => whnf
  refine gC g296 ⟨ps, 210, .inl rfl, by omega, hb, by decide, by decide, by omega, fun B' B0' dv' => ?_⟩
  rw [crB_D, crB_any B0' B0 dv' dv]
  have neL : crB B ps ≠ [] := by
    unfold crB
    have := hull_ne (vs := ps.map (vOf B)) (by simpa using ne)
    simpa using this
  conv => whnf
  refine gC g310 ⟨crB B ps, b, 210, 210, rfl, fun p hp => hb p (crB_mem B0 dv hp), hv, by decide, fun z => absurd z neL, fun _ r hr => ?_⟩
  ((conv => whnf); repeat' (first | (refine wIf_tt ?_; conv => whnf) | (refine wIf_ff ?_; conv => whnf) | (refine wIf.mk (fun hif => (have hif := of_decide_eq_true hif; ?_)) (fun hif => (have hif := of_decide_eq_false hif; ?_)) <;> (conv => whnf)) | (refine wIf_not ?_) | (refine ⟨(by decide : (_ : Int) ≠ 0), fun w _ hw => ?_⟩; replace hw := hw (by decide); conv => whnf) | (refine ⟨(by decide : (_ : Int) ≠ 0), div_lit (by decide), fun w _ hw => ?_⟩; replace hw := hw (by decide); conv => whnf) | (refine eq_rD ?_; conv => whnf) | (refine eq_ts ?_; conv => whnf) | (refine ne_ts ?_; conv => whnf) | (refine ne_rD ?_; conv => whnf) | (refine eq_vD ?_; conv => whnf) | (refine ne_vD ?_; conv => whnf) | (refine ⟨isi_ok rfl, ?_⟩; conv => whnf) | (apply wMulS.mk; (first | exact mul_l (by decide) (by decide) | exact mul_r (by decide) (by decide) | exact mul_ok (by l_ints) (by l_ints) (by decide)); conv => whnf) | (refine ⟨⟨by decide, by decide, by decide⟩, ?_⟩; conv => whnf) | (refine ⟨⟨by decide, by decide, by omega⟩, ?_⟩; conv => whnf) | (refine ⟨small_sz (Nat.le_of_ble_eq_true rfl), ?_⟩; conv => whnf) | fail))
  refine gC g134 ⟨_, rfl, ?_⟩
  ((conv => whnf); repeat' (first | (refine wIf_tt ?_; conv => whnf) | (refine wIf_ff ?_; conv => whnf) | (refine wIf.mk (fun hif => (have hif := of_decide_eq_true hif; ?_)) (fun hif => (have hif := of_decide_eq_false hif; ?_)) <;> (conv => whnf)) | (refine wIf_not ?_) | (refine ⟨(by decide : (_ : Int) ≠ 0), fun w _ hw => ?_⟩; replace hw := hw (by decide); conv => whnf) | (refine ⟨(by decide : (_ : Int) ≠ 0), div_lit (by decide), fun w _ hw => ?_⟩; replace hw := hw (by decide); conv => whnf) | (refine eq_rD ?_; conv => whnf) | (refine eq_ts ?_; conv => whnf) | (refine ne_ts ?_; conv => whnf) | (refine ne_rD ?_; conv => whnf) | (refine eq_vD ?_; conv => whnf) | (refine ne_vD ?_; conv => whnf) | (refine ⟨isi_ok rfl, ?_⟩; conv => whnf) | (apply wMulS.mk; (first | exact mul_l (by decide) (by decide) | exact mul_r (by decide) (by decide) | exact mul_ok (by l_ints) (by l_ints) (by decide)); conv => whnf) | (refine ⟨⟨by decide, by decide, by decide⟩, ?_⟩; conv => whnf) | (refine ⟨⟨by decide, by decide, by omega⟩, ?_⟩; conv => whnf) | (refine ⟨small_sz (Nat.le_of_ble_eq_true rfl), ?_⟩; conv => whnf) | fail))
  refine gC g134 ⟨_, rfl, ?_⟩
  ((conv => whnf); repeat' (first | (refine wIf_tt ?_; conv => whnf) | (refine wIf_ff ?_; conv => whnf) | (refine wIf.mk (fun hif => (have hif := of_decide_eq_true hif; ?_)) (fun hif => (have hif := of_decide_eq_false hif; ?_)) <;> (conv => whnf)) | (refine wIf_not ?_) | (refine ⟨(by decide : (_ : Int) ≠ 0), fun w _ hw => ?_⟩; replace hw := hw (by decide); conv => whnf) | (refine ⟨(by decide : (_ : Int) ≠ 0), div_lit (by decide), fun w _ hw => ?_⟩; replace hw := hw (by decide); conv => whnf) | (refine eq_rD ?_; conv => whnf) | (refine eq_ts ?_; conv => whnf) | (refine ne_ts ?_; conv => whnf) | (refine ne_rD ?_; conv => whnf) | (refine eq_vD ?_; conv => whnf) | (refine ne_vD ?_; conv => whnf) | (refine ⟨isi_ok rfl, ?_⟩; conv => whnf) | (apply wMulS.mk; (first | exact mul_l (by decide) (by decide) | exact mul_r (by decide) (by decide) | exact mul_ok (by l_ints) (by l_ints) (by decide)); conv => whnf) | (refine ⟨⟨by decide, by decide, by decide⟩, ?_⟩; conv => whnf) | (refine ⟨⟨by decide, by decide, by omega⟩, ?_⟩; conv => whnf) | (refine ⟨small_sz (Nat.le_of_ble_eq_true rfl), ?_⟩; conv => whnf) | fail))
  refine gC g315 ⟨ps, b, 210, 210, rfl, ne, hb, hv, by decide, fun s hs => ?_⟩
  have : r = s := far_same B0 dv hr hs
  rw [this]
  ((conv => whnf); repeat' (first | (refine wIf_tt ?_; conv => whnf) | (refine wIf_ff ?_; conv => whnf) | (refine wIf.mk (fun hif => (have hif := of_decide_eq_true hif; ?_)) (fun hif => (have hif := of_decide_eq_false hif; ?_)) <;> (conv => whnf)) | (refine wIf_not ?_) | (refine ⟨(by decide : (_ : Int) ≠ 0), fun w _ hw => ?_⟩; replace hw := hw (by decide); conv => whnf) | (refine ⟨(by decide : (_ : Int) ≠ 0), div_lit (by decide), fun w _ hw => ?_⟩; replace hw := hw (by decide); conv => whnf) | (refine eq_rD ?_; conv => whnf) | (refine eq_ts ?_; conv => whnf) | (refine ne_ts ?_; conv => whnf) | (refine ne_rD ?_; conv => whnf) | (refine eq_vD ?_; conv => whnf) | (refine ne_vD ?_; conv => whnf) | (refine ⟨isi_ok rfl, ?_⟩; conv => whnf) | (apply wMulS.mk; (first | exact mul_l (by decide) (by decide) | exact mul_r (by decide) (by decide) | exact mul_ok (by l_ints) (by l_ints) (by decide)); conv => whnf) | (refine ⟨⟨by decide, by decide, by decide⟩, ?_⟩; conv => whnf) | (refine ⟨⟨by decide, by decide, by omega⟩, ?_⟩; conv => whnf) | (refine ⟨small_sz (Nat.le_of_ble_eq_true rfl), ?_⟩; conv => whnf) | fail))
  rw [show decide (s = s) = true from decide_eq_true rfl]
  exact q
end DL
end
section
namespace DL
end DL
end
section
set_option maxRecDepth 100000
set_option maxHeartbeats 4000000
set_option exponentiation.threshold 100000
namespace DL
open PySem L2
local macro_rules | `(tactic| l_ints) => `(tactic| first | (assumption) | (apply Bd.neg; l_ints) | (apply Bd.mul <;> l_ints) | (exact bd40 (by omega) (by omega)) | (apply Bd.add <;> l_ints) | (apply Bd.sub <;> l_ints) | (exact bd130 (by omega) (by omega)) | (exact bd210 (by omega) (by omega)) | (exact bd_self _) | fail)
theorem cells_cut (ns : List Int) (i j : Nat) : cutD (ns.map PyData.int) (some (i : Int)) (some (j : Int)) = ((ns.drop i).take (j - i)).map .int := by rw [cut_gen, List.map_take, List.map_drop]
end DL
end
section
namespace DL
end DL
end
section
namespace DL
end DL
end
section
namespace DL
end DL
end
section
set_option maxRecDepth 100000
set_option maxHeartbeats 4000000
set_option exponentiation.threshold 100000
namespace DL
open PySem L2
local macro_rules | `(tactic| l_ints) => `(tactic| first | (assumption) | (apply Bd.neg; l_ints) | (apply Bd.mul <;> l_ints) | (exact bd40 (by omega) (by omega)) | (apply Bd.add <;> l_ints) | (apply Bd.sub <;> l_ints) | (exact bd130 (by omega) (by omega)) | (exact bd210 (by omega) (by omega)) | (exact bd_self _) | fail)
theorem evr_map2 {α β : Type} (f : α → β) (k : Nat) (xs : List α) : evr k (xs.map f) = (evr k xs).map f := by
  unfold evr
  rw [List.length_map, List.map_filterMap]
  congr 1
  funext i
  rw [List.getElem?_map]
end DL
end
section
namespace DL
def m_law_38 : Ss := (.cons (.set 1 (.call 42 (.cons (.v 0) (.cons (.int 0) .nil)))) (.cons (.set 2 (.bin .Mult (.int 57) (.bin .Mod (.v 1) (.int 2)))) (.cons (.set 3 (.bin .Add (.lst (.cons (.bin .FloorDiv (.v 1) (.int 2)) .nil)) (.sl (.v 0) (.cons (.int 1) .nil) (.cons (.int 62) .nil)))) (.cons (.frz 3) (.cons (.set 4 (.call 301 (.cons (.st2 1 (.v 3)) (.cons (.v 2) .nil)))) (.cons (.frz 4) (.cons (.ifs (.cmp .Gt (.v 2) (.int 0)) (.cons (.set 5 (.lc (.call 314 (.cons (.v 6) (.cons (.v 2) .nil))) (.nm 6) (.ex (.bin .Add (.st2 2 (.v 3)) (.lst (.cons (.v 1) .nil)))) .nil [("cell", 6)])) (.cons (.frz 5) .nil)) (.cons (.set 5 (.lc (.call 313 (.cons (.v 6) .nil)) (.nm 6) (.ex (.bin .Add (.st2 2 (.v 3)) (.lst (.cons (.v 1) .nil)))) .nil [("cell", 6)])) (.cons (.frz 5) .nil))) (.cons (.for_ (.nm 7) (.rng1 (.bi .len (.cons (.v 4) .nil))) (.cons (.ifs (.not (.call 316 (.cons (.sl (.v 4) .nil (.cons (.bin .Add (.v 7) (.int 1)) .nil)) (.cons (.ix (.v 5) (.bin .Mod (.v 7) (.bi .len (.cons (.v 5) .nil)))) .nil)))) (.cons (.ret (.bl false)) .nil) .nil) .nil)) (.cons (.for_ (.nm 8) (.ex (.v 5)) (.cons (.ifs (.or (.notN (.call 310 (.cons (.tup .nil) (.cons (.v 8) .nil)))) (.not (.call 316 (.cons (.v 4) (.cons (.v 8) .nil))))) (.cons (.ret (.bl false)) .nil) .nil) .nil)) (.cons (.ret (.bl true)) .nil))))))))))
end DL
end
section
set_option maxRecDepth 100000
set_option maxHeartbeats 4000000
set_option exponentiation.threshold 100000
namespace DL
open PySem L2
local macro_rules | `(tactic| l_ints) => `(tactic| first | (assumption) | (apply Bd.neg; l_ints) | (apply Bd.mul <;> l_ints) | (exact bd40 (by omega) (by omega)) | (apply Bd.add <;> l_ints) | (apply Bd.sub <;> l_ints) | (exact bd130 (by omega) (by omega)) | (exact bd210 (by omega) (by omega)) | (exact bd_self _) | fail)
def sp_law_38 : DSp := fun ds Q X => ∃ (ns : List Int), ds = [.list (ns.map .int)] ∧ ns.length ≤ 63 ∧ Q (.d (.bool true))
theorem p_law_38 {G : Nat → DSp} (g42 : G 42 = sp_law_cell_at) (g301 : G 301 = sp_law_places) (g314 : G 314 = sp_law_bearing_free) (g313 : G 313 = sp_law_bearing_by) (g316 : G 316 = sp_law_right_8) (g310 : G 310 = sp_area_farthest) : FnW G 9 1 m_law_38 sp_law_38 := by
  intro ds Q X ⟨ns, e, hn, q⟩
  subst e
  refine ⟨rfl, ?_⟩
  conv => whnf
  refine gC g42 ⟨ns, 0, rfl, fun c _ => ?_⟩
  conv => whnf
  refine ⟨by decide, fun u _ hu => ?_⟩
  have hu : u = c % 2 := hu (by decide)
  conv => whnf
  refine ⟨mul_l (by decide) (by decide), ?_⟩
  conv => whnf
  refine ⟨by decide, div_lit (by decide), fun v _ _ => ?_⟩
  conv => whnf
  refine ⟨Nat.le_of_ble_eq_true rfl, ?_⟩
  conv => whnf
  have ec : cutD (ns.map PyData.int) (some 1) (some 62) = ((ns.drop 1).take 61).map .int := cells_cut ns 1 62
  have lc : ((ns.drop 1).take 61).length ≤ 61 := List.length_take_le ..
  rw [ec]
  refine ⟨small_sz (by simp; omega), ?_⟩
  conv => whnf
  have ev : [PyData.int v] ++ ((ns.drop 1).take 61).map PyData.int = (v :: (ns.drop 1).take 61).map .int := rfl
  rw [ev]
  obtain ⟨cs, hcs⟩ : ∃ cs, cs = v :: (ns.drop 1).take 61 := ⟨_, rfl⟩
  rw [← hcs]
  have lcs : 1 ≤ cs.length ∧ cs.length ≤ 62 := by rw [hcs]; simp; omega
  have fin : ∀ (ps : List Pt) (bs : List Vec) (a : Option DL.R), ps ≠ [] → ps.length ≤ 100 → (∀ p ∈ ps, PtB 210 p) → bs ≠ [] → bs.length ≤ 100 → (∀ b ∈ bs, VB 210 b) → wSs G (Ss.dr 7 m_law_38) (endOf Q X) [some (.d (.list (ns.map .int))), some (.d (.int c)), some (.d (.int (57 * u))), some (.d (.list (cs.map .int))), some (.d (.list (ps.map ptD))), some (.d (.list (bs.map vD))), a, none, none] := by
    intro ps bs a h0 h1 h2 g0 g1 g2
    have lenp : ((ps.map ptD).length : Int) = ps.length := by simp
    have lenb : ((bs.map vD).length : Int) = bs.length := by simp
    have bpos := List.length_pos_iff.mpr g0
    have en : ((ps.map ptD).length : Int).toNat = ps.length := by simp
    conv => whnf
    refine ⟨Int.ofNat_le.mpr (small_sz (by simp; omega)), by omega, ?_⟩
    refine ⟨rfl, ?_⟩
    rw [en]
    refine rng_ind (fun i ρ => ∃ x y, ρ = [some (.d (.list (ns.map .int))), some (.d (.int c)), some (.d (.int (57 * u))), some (.d (.list (cs.map .int))), some (.d (.list (ps.map ptD))), some (.d (.list (bs.map vD))), a, x, y]) _ ?_ ?_ _ ⟨_, _, rfl⟩
    · rintro ρ ⟨x, y, rfl⟩
      conv => whnf
      refine ⟨rfl, ?_⟩
      refine for_map vD bs (fun ρ => ∃ x y, ρ = [some (.d (.list (ns.map .int))), some (.d (.int c)), some (.d (.int (57 * u))), some (.d (.list (cs.map .int))), some (.d (.list (ps.map ptD))), some (.d (.list (bs.map vD))), a, x, y]) ?_ ?_ _ ⟨_, _, rfl⟩
      · rintro ρ ⟨x, y, rfl⟩
        conv => whnf
        exact q
      · rintro b hb ρ ⟨x, y, rfl⟩ nx hnx
        conv => whnf
        refine ⟨Nat.le_of_ble_eq_true rfl, ?_⟩
        conv => whnf
        refine gC g310 ⟨[], b, 210, 210, rfl, by simp, g2 b hb, by decide, fun _ => ?_, fun z => absurd rfl z⟩
        ((conv => whnf); repeat' (first | (refine wIf_tt ?_; conv => whnf) | (refine wIf_ff ?_; conv => whnf) | (refine wIf.mk (fun hif => (have hif := of_decide_eq_true hif; ?_)) (fun hif => (have hif := of_decide_eq_false hif; ?_)) <;> (conv => whnf)) | (refine wIf_not ?_) | (refine ⟨(by decide : (_ : Int) ≠ 0), fun w _ hw => ?_⟩; replace hw := hw (by decide); conv => whnf) | (refine ⟨(by decide : (_ : Int) ≠ 0), div_lit (by decide), fun w _ hw => ?_⟩; replace hw := hw (by decide); conv => whnf) | (refine eq_rD ?_; conv => whnf) | (refine eq_ts ?_; conv => whnf) | (refine ne_ts ?_; conv => whnf) | (refine ne_rD ?_; conv => whnf) | (refine eq_vD ?_; conv => whnf) | (refine ne_vD ?_; conv => whnf) | (refine ⟨isi_ok rfl, ?_⟩; conv => whnf) | (apply wMulS.mk; (first | exact mul_l (by decide) (by decide) | exact mul_r (by decide) (by decide) | exact mul_ok (by l_ints) (by l_ints) (by decide)); conv => whnf) | (refine ⟨⟨by decide, by decide, by decide⟩, ?_⟩; conv => whnf) | (refine ⟨⟨by decide, by decide, by omega⟩, ?_⟩; conv => whnf) | (refine ⟨small_sz (Nat.le_of_ble_eq_true rfl), ?_⟩; conv => whnf) | fail))
        refine gC g316 ⟨ps, b, rfl, h0, h1, h2, g2 b hb, ?_⟩
        ((conv => whnf); repeat' (first | (refine wIf_tt ?_; conv => whnf) | (refine wIf_ff ?_; conv => whnf) | (refine wIf.mk (fun hif => (have hif := of_decide_eq_true hif; ?_)) (fun hif => (have hif := of_decide_eq_false hif; ?_)) <;> (conv => whnf)) | (refine wIf_not ?_) | (refine ⟨(by decide : (_ : Int) ≠ 0), fun w _ hw => ?_⟩; replace hw := hw (by decide); conv => whnf) | (refine ⟨(by decide : (_ : Int) ≠ 0), div_lit (by decide), fun w _ hw => ?_⟩; replace hw := hw (by decide); conv => whnf) | (refine eq_rD ?_; conv => whnf) | (refine eq_ts ?_; conv => whnf) | (refine ne_ts ?_; conv => whnf) | (refine ne_rD ?_; conv => whnf) | (refine eq_vD ?_; conv => whnf) | (refine ne_vD ?_; conv => whnf) | (refine ⟨isi_ok rfl, ?_⟩; conv => whnf) | (apply wMulS.mk; (first | exact mul_l (by decide) (by decide) | exact mul_r (by decide) (by decide) | exact mul_ok (by l_ints) (by l_ints) (by decide)); conv => whnf) | (refine ⟨⟨by decide, by decide, by decide⟩, ?_⟩; conv => whnf) | (refine ⟨⟨by decide, by decide, by omega⟩, ?_⟩; conv => whnf) | (refine ⟨small_sz (Nat.le_of_ble_eq_true rfl), ?_⟩; conv => whnf) | fail))
        exact hnx _ ⟨_, _, rfl⟩
    · rintro i ρ hi ⟨x, y, rfl⟩ nx hnx
      have e1 : (i : Int) + 1 = ((i + 1 : Nat) : Int) := by omega
      have el : cutD (ps.map ptD) none (some ((i + 1 : Nat) : Int)) = (ps.take (i + 1)).map ptD := by rw [cut_to, List.map_take]
      conv => whnf
      rw [e1, el]
      conv => whnf
      refine ⟨by omega, fun w _ hw => ?_⟩
      have hw := hw (by omega)
      have w0 := Int.emod_nonneg (i : Int) (show ((bs.map vD).length : Int) ≠ 0 by omega)
      have w1 := Int.emod_lt_of_pos (i : Int) (show 0 < ((bs.map vD).length : Int) by omega)
      obtain ⟨b, hb, eb⟩ := atI_maps (f := vD) (xs := bs) (i := w) (by omega) (by omega)
      conv => whnf
      rw [eb]
      conv => whnf
      refine gC g316 ⟨ps.take (i + 1), b, rfl, ?_, by rw [List.length_take]; omega, fun p hp => h2 p (List.mem_of_mem_take hp), g2 b hb, ?_⟩
      · intro z
        have := congrArg List.length z
        rw [List.length_take, List.length_nil] at this
        have := List.length_pos_iff.mpr h0
        omega
      ((conv => whnf); repeat' (first | (refine wIf_tt ?_; conv => whnf) | (refine wIf_ff ?_; conv => whnf) | (refine wIf.mk (fun hif => (have hif := of_decide_eq_true hif; ?_)) (fun hif => (have hif := of_decide_eq_false hif; ?_)) <;> (conv => whnf)) | (refine wIf_not ?_) | (refine ⟨(by decide : (_ : Int) ≠ 0), fun w _ hw => ?_⟩; replace hw := hw (by decide); conv => whnf) | (refine ⟨(by decide : (_ : Int) ≠ 0), div_lit (by decide), fun w _ hw => ?_⟩; replace hw := hw (by decide); conv => whnf) | (refine eq_rD ?_; conv => whnf) | (refine eq_ts ?_; conv => whnf) | (refine ne_ts ?_; conv => whnf) | (refine ne_rD ?_; conv => whnf) | (refine eq_vD ?_; conv => whnf) | (refine ne_vD ?_; conv => whnf) | (refine ⟨isi_ok rfl, ?_⟩; conv => whnf) | (apply wMulS.mk; (first | exact mul_l (by decide) (by decide) | exact mul_r (by decide) (by decide) | exact mul_ok (by l_ints) (by l_ints) (by decide)); conv => whnf) | (refine ⟨⟨by decide, by decide, by decide⟩, ?_⟩; conv => whnf) | (refine ⟨⟨by decide, by decide, by omega⟩, ?_⟩; conv => whnf) | (refine ⟨small_sz (Nat.le_of_ble_eq_true rfl), ?_⟩; conv => whnf) | fail))
      exact hnx _ ⟨_, _, rfl⟩
  have e1 : evr (1 - 1) (cs.map PyData.int) = (evr 0 cs).map .int := evr_map2 _ _ _
  have e2 : evr (2 - 1) (cs.map PyData.int) = (evr 1 cs).map .int := evr_map2 _ _ _
  have l1 := evr_le 0 cs
  have l2 := evr_le 1 cs
  have n1 : 1 ≤ (evr 0 cs).length := by
    match cs, lcs with
    | z :: zs, _ =>
      unfold evr
      rw [show ((z :: zs).length - 0 + 1) / 2 = ((z :: zs).length - 0 + 1) / 2 - 1 + 1 by simp; omega, List.range_succ_eq_map, List.filterMap_cons]
      simp
  rw [e1]
  refine gC g301 ⟨evr 0 cs, _, rfl, by omega, by omega, by omega, fun ps h1 h2 => ?_⟩
  have np : ps ≠ [] := fun z => by subst z; simp at h1; omega
  have go : wSs G (Ss.dr 6 m_law_38) (endOf Q X) [some (.d (.list (ns.map .int))), some (.d (.int c)), some (.d (.int (57 * u))), some (.d (.list (cs.map .int))), some (.d (.list (ps.map ptD))), none, none, none, none] := by
    have e3 : (evr 1 cs).map PyData.int ++ [PyData.int c] = (evr 1 cs ++ [c]).map .int := by simp
    conv => whnf
    refine wIf.mk (fun h => ?_) (fun h => ?_)
    · have h : 0 < 57 * u := of_decide_eq_true h
      conv => whnf
      rw [e2]
      refine ⟨Nat.le_of_ble_eq_true rfl, ?_⟩
      conv => whnf
      refine ⟨small_sz (by simp; omega), ?_⟩
      rw [e3]
      refine lc_each (t := .nm 6) PyData.int vD (fun b => VB 210 b ∧ b ≠ (0, 0)) (evr 1 cs ++ [c]) (fun x _ k2 hk2 => ?_) fun bs b1 b2 => ?_
      · conv => whnf
        refine gC g314 ⟨x, _, rfl, by omega, by omega, fun b hb hb0 => ?_⟩
        exact hk2 b ⟨hb, hb0⟩
      · rw [List.length_append, List.length_singleton] at b1
        exact fin ps bs _ np (by omega) h2 (fun z => by subst z; simp at b1) (by omega) fun b hb => (b2 b hb).1
    · conv => whnf
      rw [e2]
      refine ⟨Nat.le_of_ble_eq_true rfl, ?_⟩
      conv => whnf
      refine ⟨small_sz (by simp; omega), ?_⟩
      rw [e3]
      refine lc_each (t := .nm 6) PyData.int vD (fun b => VB 210 b ∧ b ≠ (0, 0)) (evr 1 cs ++ [c]) (fun x _ k2 hk2 => ?_) fun bs b1 b2 => ?_
      · conv => whnf
        refine gC g313 ⟨x, rfl, fun b hb hb0 => ?_⟩
        exact hk2 b ⟨hb, hb0⟩
      · rw [List.length_append, List.length_singleton] at b1
        exact fin ps bs _ np (by omega) h2 (fun z => by subst z; simp at b1) (by omega) fun b hb => (b2 b hb).1
  exact ⟨go, go⟩
end DL
end
section
set_option maxRecDepth 100000
set_option maxHeartbeats 0
namespace DL
open PySem PySem.Spec PyProof.Rows L2
def top (i : Nat) : Stmt := PySem.Challenge.pw_closehaul_k37_the_farthest_of_an_area.main.body.getD i (.Pass ⟨0, 0, 0, 0⟩)
abbrev st_turn_of : Stmt := top 1
theorem sc_turn_of : FnScope ["one", "other"] ["one", "other"] (defScope st_turn_of) := ⟨rfl, rfl, rfl, by decide +kernel, rfl, by decide +kernel, by decide +kernel⟩
def dd_turn_of : He.DefD := ⟨("turn_of", none), "turn_of", "turn_of", defArgs st_turn_of, defBody st_turn_of, defScope st_turn_of, [], []⟩
abbrev st_common_measure : Stmt := top 6
theorem sc_common_measure : FnScope ["one", "other"] ["one", "other"] (defScope st_common_measure) := ⟨rfl, rfl, rfl, by decide +kernel, rfl, by decide +kernel, by decide +kernel⟩
def dd_common_measure : He.DefD := ⟨("common_measure", none), "common_measure", "common_measure", defArgs st_common_measure, defBody st_common_measure, defScope st_common_measure, [], []⟩
abbrev st_lowest : Stmt := top 7
theorem sc_lowest : FnScope ["top", "bottom", "part"] ["top", "bottom"] (defScope st_lowest) := ⟨rfl, rfl, rfl, by decide +kernel, rfl, by decide +kernel, by decide +kernel⟩
def dd_lowest : He.DefD := ⟨("lowest", none), "lowest", "lowest", defArgs st_lowest, defBody st_lowest, defScope st_lowest, [], []⟩
abbrev st_is_before : Stmt := top 8
theorem sc_is_before : FnScope ["one", "other"] ["one", "other"] (defScope st_is_before) := ⟨rfl, rfl, rfl, by decide +kernel, rfl, by decide +kernel, by decide +kernel⟩
def dd_is_before : He.DefD := ⟨("is_before", none), "is_before", "is_before", defArgs st_is_before, defBody st_is_before, defScope st_is_before, [], []⟩
abbrev st_along : Stmt := top 10
theorem sc_along : FnScope ["bearing", "place"] ["bearing", "place"] (defScope st_along) := ⟨rfl, rfl, rfl, by decide +kernel, rfl, by decide +kernel, by decide +kernel⟩
def dd_along : He.DefD := ⟨("along", none), "along", "along", defArgs st_along, defBody st_along, defScope st_along, [], []⟩
abbrev st_step_between_2 : Stmt := top 12
theorem sc_step_between_2 : FnScope ["one", "other"] ["one", "other"] (defScope st_step_between_2) := ⟨rfl, rfl, rfl, by decide +kernel, rfl, by decide +kernel, by decide +kernel⟩
def dd_step_between_2 : He.DefD := ⟨("step_between", none), "step_between", "step_between", defArgs st_step_between_2, defBody st_step_between_2, defScope st_step_between_2, [], []⟩
abbrev st_turn_at : Stmt := top 13
theorem sc_turn_at : FnScope ["one", "other", "third"] ["one", "other", "third"] (defScope st_turn_at) := ⟨rfl, rfl, rfl, by decide +kernel, rfl, by decide +kernel, by decide +kernel⟩
def dd_turn_at : He.DefD := ⟨("turn_at", none), "turn_at", "turn_at", defArgs st_turn_at, defBody st_turn_at, defScope st_turn_at, [], []⟩
abbrev st_places_sorted : Stmt := top 14
theorem sc_places_sorted : FnScope ["places", "bottom", "place", "named", "share", "vector"] ["places"] (defScope st_places_sorted) := ⟨rfl, rfl, rfl, by decide +kernel, rfl, by decide +kernel, by decide +kernel⟩
def dd_places_sorted : He.DefD := ⟨("places_sorted", none), "places_sorted", "places_sorted", defArgs st_places_sorted, defBody st_places_sorted, defScope st_places_sorted, [], []⟩
abbrev st_outer_half : Stmt := top 15
theorem sc_outer_half : FnScope ["places", "outer", "place"] ["places"] (defScope st_outer_half) := ⟨rfl, rfl, rfl, by decide +kernel, rfl, by decide +kernel, by decide +kernel⟩
def dd_outer_half : He.DefD := ⟨("outer_half", none), "outer_half", "outer_half", defArgs st_outer_half, defBody st_outer_half, defScope st_outer_half, [], []⟩
abbrev st_area_of : Stmt := top 16
theorem sc_area_of : FnScope ["places", "row"] ["places"] (defScope st_area_of) := ⟨rfl, rfl, rfl, by decide +kernel, rfl, by decide +kernel, by decide +kernel⟩
def dd_area_of : He.DefD := ⟨("area_of", none), "area_of", "area_of", defArgs st_area_of, defBody st_area_of, defScope st_area_of, [], []⟩
abbrev st_area_farthest : Stmt := top 17
theorem sc_area_farthest : FnScope ["area", "bearing", "most", "place", "far"] ["area", "bearing"] (defScope st_area_farthest) := ⟨rfl, rfl, rfl, by decide +kernel, rfl, by decide +kernel, by decide +kernel⟩
def dd_area_farthest : He.DefD := ⟨("area_farthest", none), "area_farthest", "area_farthest", defArgs st_area_farthest, defBody st_area_farthest, defScope st_area_farthest, [], []⟩
abbrev st_law_cell_at : Stmt := top 19
theorem sc_law_cell_at : FnScope ["script", "k"] ["script", "k"] (defScope st_law_cell_at) := ⟨rfl, rfl, rfl, by decide +kernel, rfl, by decide +kernel, by decide +kernel⟩
def dd_law_cell_at : He.DefD := ⟨("_law_cell_at", none), "_law_cell_at", "_law_cell_at", defArgs st_law_cell_at, defBody st_law_cell_at, defScope st_law_cell_at, [], []⟩
abbrev st_law_whole_2 : Stmt := top 20
theorem sc_law_whole_2 : FnScope ["found"] ["found"] (defScope st_law_whole_2) := ⟨rfl, rfl, rfl, by decide +kernel, rfl, by decide +kernel, by decide +kernel⟩
def dd_law_whole_2 : He.DefD := ⟨("_law_whole", none), "_law_whole", "_law_whole", defArgs st_law_whole_2, defBody st_law_whole_2, defScope st_law_whole_2, [], []⟩
abbrev st_law_measure_2 : Stmt := top 21
theorem sc_law_measure_2 : FnScope ["one", "other", "rest"] ["one", "other"] (defScope st_law_measure_2) := ⟨rfl, rfl, rfl, by decide +kernel, rfl, by decide +kernel, by decide +kernel⟩
def dd_law_measure_2 : He.DefD := ⟨("_law_measure", none), "_law_measure", "_law_measure", defArgs st_law_measure_2, defBody st_law_measure_2, defScope st_law_measure_2, [], []⟩
abbrev st_law_lowest_3 : Stmt := top 22
theorem sc_law_lowest_3 : FnScope ["x", "y", "bottom", "part"] ["x", "y", "bottom"] (defScope st_law_lowest_3) := ⟨rfl, rfl, rfl, by decide +kernel, rfl, by decide +kernel, by decide +kernel⟩
def dd_law_lowest_3 : He.DefD := ⟨("_law_lowest", none), "_law_lowest", "_law_lowest", defArgs st_law_lowest_3, defBody st_law_lowest_3, defScope st_law_lowest_3, [], []⟩
abbrev st_law_mixed : Stmt := top 23
theorem sc_law_mixed : FnScope ["cell", "k", "mixed"] ["cell", "k"] (defScope st_law_mixed) := ⟨rfl, rfl, rfl, by decide +kernel, rfl, by decide +kernel, by decide +kernel⟩
def dd_law_mixed : He.DefD := ⟨("_law_mixed", none), "_law_mixed", "_law_mixed", defArgs st_law_mixed, defBody st_law_mixed, defScope st_law_mixed, [], []⟩
abbrev st_law_between : Stmt := top 24
theorem sc_law_between : FnScope ["one", "other", "top", "bottom", "x", "y"] ["one", "other", "top", "bottom"] (defScope st_law_between) := ⟨rfl, rfl, rfl, by decide +kernel, rfl, by decide +kernel, by decide +kernel⟩
def dd_law_between : He.DefD := ⟨("_law_between", none), "_law_between", "_law_between", defArgs st_law_between, defBody st_law_between, defScope st_law_between, [], []⟩
abbrev st_law_place_by_2 : Stmt := top 25
theorem sc_law_place_by_2 : FnScope ["cell", "ahead", "rest", "way", "x", "y", "one", "other"] ["cell", "ahead"] (defScope st_law_place_by_2) := ⟨rfl, rfl, rfl, by decide +kernel, rfl, by decide +kernel, by decide +kernel⟩
def dd_law_place_by_2 : He.DefD := ⟨("_law_place_by", none), "_law_place_by", "_law_place_by", defArgs st_law_place_by_2, defBody st_law_place_by_2, defScope st_law_place_by_2, [], []⟩
abbrev st_law_size_4 : Stmt := top 26
theorem sc_law_size_4 : FnScope ["many", "size", "k"] ["many"] (defScope st_law_size_4) := ⟨rfl, rfl, rfl, by decide +kernel, rfl, by decide +kernel, by decide +kernel⟩
def dd_law_size_4 : He.DefD := ⟨("_law_size", none), "_law_size", "_law_size", defArgs st_law_size_4, defBody st_law_size_4, defScope st_law_size_4, [], []⟩
abbrev st_law_digit : Stmt := top 27
theorem sc_law_digit : FnScope ["rest", "size", "digit"] ["rest", "size"] (defScope st_law_digit) := ⟨rfl, rfl, rfl, by decide +kernel, rfl, by decide +kernel, by decide +kernel⟩
def dd_law_digit : He.DefD := ⟨("_law_digit", none), "_law_digit", "_law_digit", defArgs st_law_digit, defBody st_law_digit, defScope st_law_digit, [], []⟩
abbrev st_law_place_free : Stmt := top 28
theorem sc_law_place_free : FnScope ["cell", "most", "size", "rest", "x", "y"] ["cell", "most"] (defScope st_law_place_free) := ⟨rfl, rfl, rfl, by decide +kernel, rfl, by decide +kernel, by decide +kernel⟩
def dd_law_place_free : He.DefD := ⟨("_law_place_free", none), "_law_place_free", "_law_place_free", defArgs st_law_place_free, defBody st_law_place_free, defScope st_law_place_free, [], []⟩
abbrev st_law_places : Stmt := top 29
theorem sc_law_places : FnScope ["cells", "free", "cell", "places"] ["cells", "free"] (defScope st_law_places) := ⟨rfl, rfl, rfl, by decide +kernel, rfl, by decide +kernel, by decide +kernel⟩
def dd_law_places : He.DefD := ⟨("_law_places", none), "_law_places", "_law_places", defArgs st_law_places, defBody st_law_places, defScope st_law_places, [], []⟩
abbrev st_law_along_2 : Stmt := top 30
theorem sc_law_along_2 : FnScope ["bearing", "place", "far", "part"] ["bearing", "place"] (defScope st_law_along_2) := ⟨rfl, rfl, rfl, by decide +kernel, rfl, by decide +kernel, by decide +kernel⟩
def dd_law_along_2 : He.DefD := ⟨("_law_along", none), "_law_along", "_law_along", defArgs st_law_along_2, defBody st_law_along_2, defScope st_law_along_2, [], []⟩
abbrev st_law_less : Stmt := top 31
theorem sc_law_less : FnScope ["one", "other"] ["one", "other"] (defScope st_law_less) := ⟨rfl, rfl, rfl, by decide +kernel, rfl, by decide +kernel, by decide +kernel⟩
def dd_law_less : He.DefD := ⟨("_law_less", none), "_law_less", "_law_less", defArgs st_law_less, defBody st_law_less, defScope st_law_less, [], []⟩
abbrev st_law_bearing_by : Stmt := top 32
theorem sc_law_bearing_by : FnScope ["cell", "rest", "bearing"] ["cell"] (defScope st_law_bearing_by) := ⟨rfl, rfl, rfl, by decide +kernel, rfl, by decide +kernel, by decide +kernel⟩
def dd_law_bearing_by : He.DefD := ⟨("_law_bearing_by", none), "_law_bearing_by", "_law_bearing_by", defArgs st_law_bearing_by, defBody st_law_bearing_by, defScope st_law_bearing_by, [], []⟩
abbrev st_law_bearing_free : Stmt := top 33
theorem sc_law_bearing_free : FnScope ["cell", "most", "size", "rest", "bearing"] ["cell", "most"] (defScope st_law_bearing_free) := ⟨rfl, rfl, rfl, by decide +kernel, rfl, by decide +kernel, by decide +kernel⟩
def dd_law_bearing_free : He.DefD := ⟨("_law_bearing_free", none), "_law_bearing_free", "_law_bearing_free", defArgs st_law_bearing_free, defBody st_law_bearing_free, defScope st_law_bearing_free, [], []⟩
abbrev st_law_due_4 : Stmt := top 34
theorem sc_law_due_4 : FnScope ["places", "bearing", "most", "place"] ["places", "bearing"] (defScope st_law_due_4) := ⟨rfl, rfl, rfl, by decide +kernel, rfl, by decide +kernel, by decide +kernel⟩
def dd_law_due_4 : He.DefD := ⟨("_law_due", none), "_law_due", "_law_due", defArgs st_law_due_4, defBody st_law_due_4, defScope st_law_due_4, [], []⟩
abbrev st_law_right_8 : Stmt := top 35
theorem sc_law_right_8 : FnScope ["places", "bearing", "found"] ["places", "bearing"] (defScope st_law_right_8) := ⟨rfl, rfl, rfl, by decide +kernel, rfl, by decide +kernel, by decide +kernel⟩
def dd_law_right_8 : He.DefD := ⟨("_law_right", none), "_law_right", "_law_right", defArgs st_law_right_8, defBody st_law_right_8, defScope st_law_right_8, [], []⟩
abbrev st_law_38 : Stmt := top 36
theorem sc_law_38 : FnScope ["script", "first", "free", "cells", "places", "bearings", "cell", "k", "bearing"] ["script"] (defScope st_law_38) := ⟨rfl, rfl, rfl, by decide +kernel, rfl, by decide +kernel, by decide +kernel⟩
def dd_law_38 : He.DefD := ⟨("law", none), "law", "law", defArgs st_law_38, defBody st_law_38, defScope st_law_38, [], []⟩
def fnK : List He.DefD := [dd_turn_of, dd_common_measure, dd_lowest, dd_is_before, dd_along, dd_step_between_2, dd_turn_at, dd_places_sorted, dd_outer_half, dd_area_of, dd_area_farthest, dd_law_cell_at, dd_law_whole_2, dd_law_measure_2, dd_law_lowest_3, dd_law_mixed, dd_law_between, dd_law_place_by_2, dd_law_size_4, dd_law_digit, dd_law_place_free, dd_law_places, dd_law_along_2, dd_law_less, dd_law_bearing_by, dd_law_bearing_free, dd_law_due_4, dd_law_right_8, dd_law_38]
def faK : List He.Fa := [.free "len", .free "abs", .free "max", .free "min", .free "sum", .free "all", .free "any", .free "list", .free "tuple", .free "int", .free "str", .free "isinstance", .free "range", .free "enumerate", .free "zip", .free "reversed", .free "bool", .free "sorted", .free "set", .glo "SailError", .glo "NoFraction", .exc "SailError", .exc "NoFraction", .exm "SailError" "SailError" true, .exm "SailError" "NoFraction" false, .exm "NoFraction" "SailError" true, .exm "NoFraction" "NoFraction" true, .glo "turn_of", .glo "common_measure", .glo "lowest", .glo "is_before", .glo "along", .glo "step_between", .glo "turn_at", .glo "places_sorted", .glo "outer_half", .glo "area_of", .glo "area_farthest", .glo "_law_cell_at", .glo "_law_whole", .glo "_law_measure", .glo "_law_lowest", .glo "_law_mixed", .glo "_law_between", .glo "_law_place_by", .glo "_law_size", .glo "_law_digit", .glo "_law_place_free", .glo "_law_places", .glo "_law_along", .glo "_law_less", .glo "_law_bearing_by", .glo "_law_bearing_free", .glo "_law_due", .glo "_law_right", .glo "law"]
def tbK : List (Str × List Int) := []
def fnT : Nat → Str
  | 32 => "turn_of"
  | 0 => "common_measure"
  | 1 => "lowest"
  | 15 => "is_before"
  | 26 => "along"
  | 292 => "step_between"
  | 293 => "turn_at"
  | 294 => "places_sorted"
  | 295 => "outer_half"
  | 296 => "area_of"
  | 310 => "area_farthest"
  | 42 => "_law_cell_at"
  | 134 => "_law_whole"
  | 135 => "_law_measure"
  | 136 => "_law_lowest"
  | 137 => "_law_mixed"
  | 297 => "_law_between"
  | 298 => "_law_place_by"
  | 299 => "_law_size"
  | 140 => "_law_digit"
  | 300 => "_law_place_free"
  | 301 => "_law_places"
  | 311 => "_law_along"
  | 312 => "_law_less"
  | 313 => "_law_bearing_by"
  | 314 => "_law_bearing_free"
  | 315 => "_law_due"
  | 316 => "_law_right"
  | 317 => "law"
  | _ => ""
def xcT : Nat → Str
  | 0 => "SailError"
  | 1 => "NoFraction"
  | _ => ""
def glT : Nat → Str
  | _ => ""
def TK : Tb := ⟨fnT, xcT, glT, [], [], [0, 1], []⟩
def GK : Nat → DSp
  | 32 => sp_turn_of
  | 0 => sp_common_measure
  | 1 => sp_lowest
  | 15 => sp_is_before
  | 26 => sp_along
  | 292 => sp_step_between_2
  | 293 => sp_turn_at
  | 294 => sp_places_sorted
  | 295 => sp_outer_half
  | 296 => sp_area_of
  | 310 => sp_area_farthest
  | 42 => sp_law_cell_at
  | 134 => sp_law_whole_2
  | 135 => sp_law_measure_2
  | 136 => sp_law_lowest_3_r
  | 137 => sp_law_mixed
  | 297 => sp_law_between
  | 298 => sp_law_place_by_2
  | 299 => sp_law_size_4
  | 140 => sp_law_digit_r
  | 300 => sp_law_place_free
  | 301 => sp_law_places
  | 311 => sp_law_along_2
  | 312 => sp_law_less
  | 313 => sp_law_bearing_by
  | 314 => sp_law_bearing_free
  | 315 => sp_law_due_4
  | 316 => sp_law_right_8
  | 317 => sp_law_38
  | _ => fun _ _ _ => False
theorem ck_turn_of : ckSs { TK with fns := [] } ["one", "other"] true (defScope st_turn_of) m_turn_of (defBody st_turn_of) = true := by decide +kernel
theorem ck_common_measure : ckSs { TK with fns := [] } ["one", "other"] true (defScope st_common_measure) m_common_measure (defBody st_common_measure) = true := by decide +kernel
theorem ck_lowest : ckSs { TK with fns := [0] } ["top", "bottom", "part"] true (defScope st_lowest) m_lowest (defBody st_lowest) = true := by decide +kernel
theorem ck_is_before : ckSs { TK with fns := [] } ["one", "other"] true (defScope st_is_before) m_is_before (defBody st_is_before) = true := by decide +kernel
theorem ck_along : ckSs { TK with fns := [1] } ["bearing", "place"] true (defScope st_along) m_along (defBody st_along) = true := by decide +kernel
theorem ck_step_between_2 : ckSs { TK with fns := [] } ["one", "other"] true (defScope st_step_between_2) m_step_between_2 (defBody st_step_between_2) = true := by decide +kernel
theorem ck_turn_at : ckSs { TK with fns := [32, 292] } ["one", "other", "third"] true (defScope st_turn_at) m_turn_at (defBody st_turn_at) = true := by decide +kernel
theorem ck_places_sorted : ckSs { TK with fns := [1] } ["places", "bottom", "place", "named", "share", "vector"] true (defScope st_places_sorted) m_places_sorted (defBody st_places_sorted) = true := by decide +kernel
theorem ck_outer_half : ckSs { TK with fns := [293] } ["places", "outer", "place"] true (defScope st_outer_half) m_outer_half (defBody st_outer_half) = true := by decide +kernel
theorem ck_area_of : ckSs { TK with fns := [294, 295] } ["places", "row"] true (defScope st_area_of) m_area_of (defBody st_area_of) = true := by decide +kernel
theorem ck_area_farthest : ckSs { TK with fns := [26, 15] } ["area", "bearing", "most", "place", "far"] true (defScope st_area_farthest) m_area_farthest (defBody st_area_farthest) = true := by decide +kernel
theorem ck_law_cell_at : ckSs { TK with fns := [] } ["script", "k"] true (defScope st_law_cell_at) m_law_cell_at (defBody st_law_cell_at) = true := by decide +kernel
theorem ck_law_whole_2 : ckSs { TK with fns := [] } ["found"] true (defScope st_law_whole_2) m_law_whole_2 (defBody st_law_whole_2) = true := by decide +kernel
theorem ck_law_measure_2 : ckSs { TK with fns := [] } ["one", "other", "rest"] true (defScope st_law_measure_2) m_law_measure_2 (defBody st_law_measure_2) = true := by decide +kernel
theorem ck_law_lowest_3 : ckSs { TK with fns := [135] } ["x", "y", "bottom", "part"] true (defScope st_law_lowest_3) m_law_lowest_3 (defBody st_law_lowest_3) = true := by decide +kernel
theorem ck_law_mixed : ckSs { TK with fns := [] } ["cell", "k", "mixed"] true (defScope st_law_mixed) m_law_mixed (defBody st_law_mixed) = true := by decide +kernel
theorem ck_law_between : ckSs { TK with fns := [136] } ["one", "other", "top", "bottom", "x", "y"] true (defScope st_law_between) m_law_between (defBody st_law_between) = true := by decide +kernel
theorem ck_law_place_by_2 : ckSs { TK with fns := [137, 297, 136] } ["cell", "ahead", "rest", "way", "x", "y", "one", "other"] true (defScope st_law_place_by_2) m_law_place_by_2 (defBody st_law_place_by_2) = true := by decide +kernel
theorem ck_law_size_4 : ckSs { TK with fns := [] } ["many", "size", "k"] true (defScope st_law_size_4) m_law_size_4 (defBody st_law_size_4) = true := by decide +kernel
theorem ck_law_digit : ckSs { TK with fns := [] } ["rest", "size", "digit"] true (defScope st_law_digit) m_law_digit (defBody st_law_digit) = true := by decide +kernel
theorem ck_law_place_free : ckSs { TK with fns := [299, 140, 136] } ["cell", "most", "size", "rest", "x", "y"] true (defScope st_law_place_free) m_law_place_free (defBody st_law_place_free) = true := by decide +kernel
theorem ck_law_places : ckSs { TK with fns := [300, 298] } ["cells", "free", "cell", "places"] true (defScope st_law_places) m_law_places (defBody st_law_places) = true := by decide +kernel
theorem ck_law_along_2 : ckSs { TK with fns := [135] } ["bearing", "place", "far", "part"] true (defScope st_law_along_2) m_law_along_2 (defBody st_law_along_2) = true := by decide +kernel
theorem ck_law_less : ckSs { TK with fns := [] } ["one", "other"] true (defScope st_law_less) m_law_less (defBody st_law_less) = true := by decide +kernel
theorem ck_law_bearing_by : ckSs { TK with fns := [137] } ["cell", "rest", "bearing"] true (defScope st_law_bearing_by) m_law_bearing_by (defBody st_law_bearing_by) = true := by decide +kernel
theorem ck_law_bearing_free : ckSs { TK with fns := [299, 140] } ["cell", "most", "size", "rest", "bearing"] true (defScope st_law_bearing_free) m_law_bearing_free (defBody st_law_bearing_free) = true := by decide +kernel
theorem ck_law_due_4 : ckSs { TK with fns := [311, 312] } ["places", "bearing", "most", "place"] true (defScope st_law_due_4) m_law_due_4 (defBody st_law_due_4) = true := by decide +kernel
theorem ck_law_right_8 : ckSs { TK with fns := [310, 296, 134, 315] } ["places", "bearing", "found"] true (defScope st_law_right_8) m_law_right_8 (defBody st_law_right_8) = true := by decide +kernel
theorem ck_law_38 : ckSs { TK with fns := [42, 301, 314, 313, 316, 310] } ["script", "first", "free", "cells", "places", "bearings", "cell", "k", "bearing"] true (defScope st_law_38) m_law_38 (defBody st_law_38) = true := by decide +kernel
section
variable {P : Program} {w : World} {K : PySem.W.Frag} {h : Heap} {mg : Str → Option Value}
theorem wdK (X : K.In h) (G : h.Ns mainGlobals mg) (c : SaysE faK fnK tbK K) : Wd P w K mg TK where
  gl := all_nil
  bi := fun b => match b with | .len => He.free_ok X G (c.d.fact 0 (f := .free "len") rfl) | .abs => He.free_ok X G (c.d.fact 1 (f := .free "abs") rfl) | .max1 => He.free_ok X G (c.d.fact 2 (f := .free "max") rfl) | .min1 => He.free_ok X G (c.d.fact 3 (f := .free "min") rfl) | .max2 => He.free_ok X G (c.d.fact 2 (f := .free "max") rfl) | .min2 => He.free_ok X G (c.d.fact 3 (f := .free "min") rfl) | .sum1 => He.free_ok X G (c.d.fact 4 (f := .free "sum") rfl) | .all1 => He.free_ok X G (c.d.fact 5 (f := .free "all") rfl) | .any1 => He.free_ok X G (c.d.fact 6 (f := .free "any") rfl) | .list1 => He.free_ok X G (c.d.fact 7 (f := .free "list") rfl) | .tuple1 => He.free_ok X G (c.d.fact 8 (f := .free "tuple") rfl) | .int1 => He.free_ok X G (c.d.fact 9 (f := .free "int") rfl) | .str1 => He.free_ok X G (c.d.fact 10 (f := .free "str") rfl)
  bo := (all_cons (He.free_ok X G (c.d.fact 11 (f := .free "isinstance") rfl)) (all_cons (He.free_ok X G (c.d.fact 12 (f := .free "range") rfl)) (all_cons (He.free_ok X G (c.d.fact 13 (f := .free "enumerate") rfl)) (all_cons (He.free_ok X G (c.d.fact 14 (f := .free "zip") rfl)) (all_cons (He.free_ok X G (c.d.fact 15 (f := .free "reversed") rfl)) (all_cons (He.free_ok X G (c.d.fact 9 (f := .free "int") rfl)) (all_cons (He.free_ok X G (c.d.fact 16 (f := .free "bool") rfl)) (all_cons (He.free_ok X G (c.d.fact 10 (f := .free "str") rfl)) (all_cons (He.free_ok X G (c.d.fact 8 (f := .free "tuple") rfl)) (all_cons (He.free_ok X G (c.d.fact 7 (f := .free "list") rfl)) (all_cons (He.free_ok X G (c.d.fact 17 (f := .free "sorted") rfl)) (all_cons (He.free_ok X G (c.d.fact 18 (f := .free "set") rfl)) all_nil))))))))))))
  xa := (all_cons (He.glo_ok X G (c.d.fact 19 (f := .glo "SailError") rfl)) (all_cons (He.glo_ok X G (c.d.fact 20 (f := .glo "NoFraction") rfl)) all_nil))
  xe := (all_cons (He.exc_ok (c.d.fact 21 (f := .exc "SailError") rfl)) (all_cons (He.exc_ok (c.d.fact 22 (f := .exc "NoFraction") rfl)) all_nil))
  xm := (all_cons (all_cons (He.exm_ok (c.d.fact 23 (f := .exm "SailError" "SailError" true) rfl)) (all_cons (He.exm_ok (c.d.fact 24 (f := .exm "SailError" "NoFraction" false) rfl)) all_nil)) (all_cons (all_cons (He.exm_ok (c.d.fact 25 (f := .exm "NoFraction" "SailError" true) rfl)) (all_cons (He.exm_ok (c.d.fact 26 (f := .exm "NoFraction" "NoFraction" true) rfl)) all_nil)) all_nil))
  xi := all_nil
theorem allK (X : K.In h) (G : h.Ns mainGlobals mg) (c : SaysE faK fnK tbK K) : ∃ fd : FuncData, (∀ (s : Shared) (v : Value), BindsTo s fd ⟨[v], []⟩ [("script", v)]) ∧ ∀ base : Heap, K.In base → base.Ns mainGlobals mg → FnOk P w K mg base (L2.CX P w) 6 (He.ga K "law") fd ["script"] (spLaw K) := by
  have wd : Wd P w K mg TK := wdK X G c
  obtain ⟨fd_turn_of, F_turn_of⟩ := c.d.def_ 0 (d := dd_turn_of) rfl
  obtain ⟨fd_common_measure, F_common_measure⟩ := c.d.def_ 1 (d := dd_common_measure) rfl
  obtain ⟨fd_lowest, F_lowest⟩ := c.d.def_ 2 (d := dd_lowest) rfl
  obtain ⟨fd_is_before, F_is_before⟩ := c.d.def_ 3 (d := dd_is_before) rfl
  obtain ⟨fd_along, F_along⟩ := c.d.def_ 4 (d := dd_along) rfl
  obtain ⟨fd_step_between_2, F_step_between_2⟩ := c.d.def_ 5 (d := dd_step_between_2) rfl
  obtain ⟨fd_turn_at, F_turn_at⟩ := c.d.def_ 6 (d := dd_turn_at) rfl
  obtain ⟨fd_places_sorted, F_places_sorted⟩ := c.d.def_ 7 (d := dd_places_sorted) rfl
  obtain ⟨fd_outer_half, F_outer_half⟩ := c.d.def_ 8 (d := dd_outer_half) rfl
  obtain ⟨fd_area_of, F_area_of⟩ := c.d.def_ 9 (d := dd_area_of) rfl
  obtain ⟨fd_area_farthest, F_area_farthest⟩ := c.d.def_ 10 (d := dd_area_farthest) rfl
  obtain ⟨fd_law_cell_at, F_law_cell_at⟩ := c.d.def_ 11 (d := dd_law_cell_at) rfl
  obtain ⟨fd_law_whole_2, F_law_whole_2⟩ := c.d.def_ 12 (d := dd_law_whole_2) rfl
  obtain ⟨fd_law_measure_2, F_law_measure_2⟩ := c.d.def_ 13 (d := dd_law_measure_2) rfl
  obtain ⟨fd_law_lowest_3, F_law_lowest_3⟩ := c.d.def_ 14 (d := dd_law_lowest_3) rfl
  obtain ⟨fd_law_mixed, F_law_mixed⟩ := c.d.def_ 15 (d := dd_law_mixed) rfl
  obtain ⟨fd_law_between, F_law_between⟩ := c.d.def_ 16 (d := dd_law_between) rfl
  obtain ⟨fd_law_place_by_2, F_law_place_by_2⟩ := c.d.def_ 17 (d := dd_law_place_by_2) rfl
  obtain ⟨fd_law_size_4, F_law_size_4⟩ := c.d.def_ 18 (d := dd_law_size_4) rfl
  obtain ⟨fd_law_digit, F_law_digit⟩ := c.d.def_ 19 (d := dd_law_digit) rfl
  obtain ⟨fd_law_place_free, F_law_place_free⟩ := c.d.def_ 20 (d := dd_law_place_free) rfl
  obtain ⟨fd_law_places, F_law_places⟩ := c.d.def_ 21 (d := dd_law_places) rfl
  obtain ⟨fd_law_along_2, F_law_along_2⟩ := c.d.def_ 22 (d := dd_law_along_2) rfl
  obtain ⟨fd_law_less, F_law_less⟩ := c.d.def_ 23 (d := dd_law_less) rfl
  obtain ⟨fd_law_bearing_by, F_law_bearing_by⟩ := c.d.def_ 24 (d := dd_law_bearing_by) rfl
  obtain ⟨fd_law_bearing_free, F_law_bearing_free⟩ := c.d.def_ 25 (d := dd_law_bearing_free) rfl
  obtain ⟨fd_law_due_4, F_law_due_4⟩ := c.d.def_ 26 (d := dd_law_due_4) rfl
  obtain ⟨fd_law_right_8, F_law_right_8⟩ := c.d.def_ 27 (d := dd_law_right_8) rfl
  obtain ⟨fd_law_38, F_law_38⟩ := c.d.def_ 28 (d := dd_law_38) rfl
  refine ⟨fd_law_38, fun s v => FunD.bindsA (ps := ["script"]) F_law_38 (fun _ _ _ _ _ _ us hl => match us, hl with | [_], _ => rfl) s [v] rfl, fun base _ _ => ?_⟩
  have o_turn_of : FnP P w K mg base TK GK 1 32 := def_ok (ps := ["one", "other"]) wd F_turn_of (He.glo_ok X G (c.d.fact 27 (f := .glo "turn_of") rfl)) sc_turn_of (F_turn_of.bindsN fun _ _ _ _ _ _ us hl => match us, hl with | [_, _], _ => rfl) all_nil ck_turn_of (p_turn_of)
  have o_common_measure : FnP P w K mg base TK GK 1 0 := def_ok (ps := ["one", "other"]) wd F_common_measure (He.glo_ok X G (c.d.fact 28 (f := .glo "common_measure") rfl)) sc_common_measure (F_common_measure.bindsN fun _ _ _ _ _ _ us hl => match us, hl with | [_, _], _ => rfl) all_nil ck_common_measure (p_common_measure)
  have o_lowest : FnP P w K mg base TK GK 2 1 := def_ok (ps := ["top", "bottom"]) wd F_lowest (He.glo_ok X G (c.d.fact 29 (f := .glo "lowest") rfl)) sc_lowest (F_lowest.bindsN fun _ _ _ _ _ _ us hl => match us, hl with | [_, _], _ => rfl) (all_cons (o_common_measure.mono (by decide)) all_nil) ck_lowest (p_lowest rfl)
  have o_is_before : FnP P w K mg base TK GK 1 15 := def_ok (ps := ["one", "other"]) wd F_is_before (He.glo_ok X G (c.d.fact 30 (f := .glo "is_before") rfl)) sc_is_before (F_is_before.bindsN fun _ _ _ _ _ _ us hl => match us, hl with | [_, _], _ => rfl) all_nil ck_is_before (p_is_before)
  have o_along : FnP P w K mg base TK GK 3 26 := def_ok (ps := ["bearing", "place"]) wd F_along (He.glo_ok X G (c.d.fact 31 (f := .glo "along") rfl)) sc_along (F_along.bindsN fun _ _ _ _ _ _ us hl => match us, hl with | [_, _], _ => rfl) (all_cons (o_lowest.mono (by decide)) all_nil) ck_along (p_along rfl)
  have o_step_between_2 : FnP P w K mg base TK GK 1 292 := def_ok (ps := ["one", "other"]) wd F_step_between_2 (He.glo_ok X G (c.d.fact 32 (f := .glo "step_between") rfl)) sc_step_between_2 (F_step_between_2.bindsN fun _ _ _ _ _ _ us hl => match us, hl with | [_, _], _ => rfl) all_nil ck_step_between_2 (p_step_between_2)
  have o_turn_at : FnP P w K mg base TK GK 2 293 := def_ok (ps := ["one", "other", "third"]) wd F_turn_at (He.glo_ok X G (c.d.fact 33 (f := .glo "turn_at") rfl)) sc_turn_at (F_turn_at.bindsN fun _ _ _ _ _ _ us hl => match us, hl with | [_, _, _], _ => rfl) (all_cons (o_turn_of.mono (by decide)) (all_cons (o_step_between_2.mono (by decide)) all_nil)) ck_turn_at (p_turn_at rfl rfl)
  have o_places_sorted : FnP P w K mg base TK GK 3 294 := def_ok (ps := ["places"]) wd F_places_sorted (He.glo_ok X G (c.d.fact 34 (f := .glo "places_sorted") rfl)) sc_places_sorted (F_places_sorted.bindsN fun _ _ _ _ _ _ us hl => match us, hl with | [_], _ => rfl) (all_cons (o_lowest.mono (by decide)) all_nil) ck_places_sorted (p_places_sorted rfl)
  have o_outer_half : FnP P w K mg base TK GK 3 295 := def_ok (ps := ["places"]) wd F_outer_half (He.glo_ok X G (c.d.fact 35 (f := .glo "outer_half") rfl)) sc_outer_half (F_outer_half.bindsN fun _ _ _ _ _ _ us hl => match us, hl with | [_], _ => rfl) (all_cons (o_turn_at.mono (by decide)) all_nil) ck_outer_half (p_outer_half rfl)
  have o_area_of : FnP P w K mg base TK GK 4 296 := def_ok (ps := ["places"]) wd F_area_of (He.glo_ok X G (c.d.fact 36 (f := .glo "area_of") rfl)) sc_area_of (F_area_of.bindsN fun _ _ _ _ _ _ us hl => match us, hl with | [_], _ => rfl) (all_cons (o_places_sorted.mono (by decide)) (all_cons (o_outer_half.mono (by decide)) all_nil)) ck_area_of (p_area_of rfl rfl)
  have o_area_farthest : FnP P w K mg base TK GK 4 310 := def_ok (ps := ["area", "bearing"]) wd F_area_farthest (He.glo_ok X G (c.d.fact 37 (f := .glo "area_farthest") rfl)) sc_area_farthest (F_area_farthest.bindsN fun _ _ _ _ _ _ us hl => match us, hl with | [_, _], _ => rfl) (all_cons (o_along.mono (by decide)) (all_cons (o_is_before.mono (by decide)) all_nil)) ck_area_farthest (p_area_farthest rfl rfl)
  have o_law_cell_at : FnP P w K mg base TK GK 1 42 := def_ok (ps := ["script", "k"]) wd F_law_cell_at (He.glo_ok X G (c.d.fact 38 (f := .glo "_law_cell_at") rfl)) sc_law_cell_at (F_law_cell_at.bindsN fun _ _ _ _ _ _ us hl => match us, hl with | [_, _], _ => rfl) all_nil ck_law_cell_at (p_law_cell_at)
  have o_law_whole_2 : FnP P w K mg base TK GK 1 134 := def_ok (ps := ["found"]) wd F_law_whole_2 (He.glo_ok X G (c.d.fact 39 (f := .glo "_law_whole") rfl)) sc_law_whole_2 (F_law_whole_2.bindsN fun _ _ _ _ _ _ us hl => match us, hl with | [_], _ => rfl) all_nil ck_law_whole_2 (p_law_whole_2)
  have o_law_measure_2 : FnP P w K mg base TK GK 1 135 := def_ok (ps := ["one", "other"]) wd F_law_measure_2 (He.glo_ok X G (c.d.fact 40 (f := .glo "_law_measure") rfl)) sc_law_measure_2 (F_law_measure_2.bindsN fun _ _ _ _ _ _ us hl => match us, hl with | [_, _], _ => rfl) all_nil ck_law_measure_2 (p_law_measure_2)
  have o_law_lowest_3 : FnP P w K mg base TK GK 2 136 := def_ok (ps := ["x", "y", "bottom"]) wd F_law_lowest_3 (He.glo_ok X G (c.d.fact 41 (f := .glo "_law_lowest") rfl)) sc_law_lowest_3 (F_law_lowest_3.bindsN fun _ _ _ _ _ _ us hl => match us, hl with | [_, _, _], _ => rfl) (all_cons (o_law_measure_2.mono (by decide)) all_nil) ck_law_lowest_3 (p_law_lowest_3_r rfl)
  have o_law_mixed : FnP P w K mg base TK GK 1 137 := def_ok (ps := ["cell", "k"]) wd F_law_mixed (He.glo_ok X G (c.d.fact 42 (f := .glo "_law_mixed") rfl)) sc_law_mixed (F_law_mixed.bindsN fun _ _ _ _ _ _ us hl => match us, hl with | [_, _], _ => rfl) all_nil ck_law_mixed (p_law_mixed)
  have o_law_between : FnP P w K mg base TK GK 3 297 := def_ok (ps := ["one", "other", "top", "bottom"]) wd F_law_between (He.glo_ok X G (c.d.fact 43 (f := .glo "_law_between") rfl)) sc_law_between (F_law_between.bindsN fun _ _ _ _ _ _ us hl => match us, hl with | [_, _, _, _], _ => rfl) (all_cons (o_law_lowest_3.mono (by decide)) all_nil) ck_law_between (p_law_between rfl)
  have o_law_place_by_2 : FnP P w K mg base TK GK 4 298 := def_ok (ps := ["cell", "ahead"]) wd F_law_place_by_2 (He.glo_ok X G (c.d.fact 44 (f := .glo "_law_place_by") rfl)) sc_law_place_by_2 (F_law_place_by_2.bindsN fun _ _ _ _ _ _ us hl => match us, hl with | [_, _], _ => rfl) (all_cons (o_law_mixed.mono (by decide)) (all_cons (o_law_between.mono (by decide)) (all_cons (o_law_lowest_3.mono (by decide)) all_nil))) ck_law_place_by_2 (p_law_place_by_2 rfl rfl rfl)
  have o_law_size_4 : FnP P w K mg base TK GK 1 299 := def_ok (ps := ["many"]) wd F_law_size_4 (He.glo_ok X G (c.d.fact 45 (f := .glo "_law_size") rfl)) sc_law_size_4 (F_law_size_4.bindsN fun _ _ _ _ _ _ us hl => match us, hl with | [_], _ => rfl) all_nil ck_law_size_4 (p_law_size_4)
  have o_law_digit : FnP P w K mg base TK GK 1 140 := def_ok (ps := ["rest", "size"]) wd F_law_digit (He.glo_ok X G (c.d.fact 46 (f := .glo "_law_digit") rfl)) sc_law_digit (F_law_digit.bindsN fun _ _ _ _ _ _ us hl => match us, hl with | [_, _], _ => rfl) all_nil ck_law_digit (p_law_digit_r)
  have o_law_place_free : FnP P w K mg base TK GK 3 300 := def_ok (ps := ["cell", "most"]) wd F_law_place_free (He.glo_ok X G (c.d.fact 47 (f := .glo "_law_place_free") rfl)) sc_law_place_free (F_law_place_free.bindsN fun _ _ _ _ _ _ us hl => match us, hl with | [_, _], _ => rfl) (all_cons (o_law_size_4.mono (by decide)) (all_cons (o_law_digit.mono (by decide)) (all_cons (o_law_lowest_3.mono (by decide)) all_nil))) ck_law_place_free (p_law_place_free rfl rfl rfl)
  have o_law_places : FnP P w K mg base TK GK 5 301 := def_ok (ps := ["cells", "free"]) wd F_law_places (He.glo_ok X G (c.d.fact 48 (f := .glo "_law_places") rfl)) sc_law_places (F_law_places.bindsN fun _ _ _ _ _ _ us hl => match us, hl with | [_, _], _ => rfl) (all_cons (o_law_place_free.mono (by decide)) (all_cons (o_law_place_by_2.mono (by decide)) all_nil)) ck_law_places (p_law_places rfl rfl)
  have o_law_along_2 : FnP P w K mg base TK GK 2 311 := def_ok (ps := ["bearing", "place"]) wd F_law_along_2 (He.glo_ok X G (c.d.fact 49 (f := .glo "_law_along") rfl)) sc_law_along_2 (F_law_along_2.bindsN fun _ _ _ _ _ _ us hl => match us, hl with | [_, _], _ => rfl) (all_cons (o_law_measure_2.mono (by decide)) all_nil) ck_law_along_2 (p_law_along_2 rfl)
  have o_law_less : FnP P w K mg base TK GK 1 312 := def_ok (ps := ["one", "other"]) wd F_law_less (He.glo_ok X G (c.d.fact 50 (f := .glo "_law_less") rfl)) sc_law_less (F_law_less.bindsN fun _ _ _ _ _ _ us hl => match us, hl with | [_, _], _ => rfl) all_nil ck_law_less (p_law_less)
  have o_law_bearing_by : FnP P w K mg base TK GK 2 313 := def_ok (ps := ["cell"]) wd F_law_bearing_by (He.glo_ok X G (c.d.fact 51 (f := .glo "_law_bearing_by") rfl)) sc_law_bearing_by (F_law_bearing_by.bindsN fun _ _ _ _ _ _ us hl => match us, hl with | [_], _ => rfl) (all_cons (o_law_mixed.mono (by decide)) all_nil) ck_law_bearing_by (p_law_bearing_by rfl)
  have o_law_bearing_free : FnP P w K mg base TK GK 2 314 := def_ok (ps := ["cell", "most"]) wd F_law_bearing_free (He.glo_ok X G (c.d.fact 52 (f := .glo "_law_bearing_free") rfl)) sc_law_bearing_free (F_law_bearing_free.bindsN fun _ _ _ _ _ _ us hl => match us, hl with | [_, _], _ => rfl) (all_cons (o_law_size_4.mono (by decide)) (all_cons (o_law_digit.mono (by decide)) all_nil)) ck_law_bearing_free (p_law_bearing_free rfl rfl)
  have o_law_due_4 : FnP P w K mg base TK GK 3 315 := def_ok (ps := ["places", "bearing"]) wd F_law_due_4 (He.glo_ok X G (c.d.fact 53 (f := .glo "_law_due") rfl)) sc_law_due_4 (F_law_due_4.bindsN fun _ _ _ _ _ _ us hl => match us, hl with | [_, _], _ => rfl) (all_cons (o_law_along_2.mono (by decide)) (all_cons (o_law_less.mono (by decide)) all_nil)) ck_law_due_4 (p_law_due_4 rfl rfl)
  have o_law_right_8 : FnP P w K mg base TK GK 5 316 := def_ok (ps := ["places", "bearing"]) wd F_law_right_8 (He.glo_ok X G (c.d.fact 54 (f := .glo "_law_right") rfl)) sc_law_right_8 (F_law_right_8.bindsN fun _ _ _ _ _ _ us hl => match us, hl with | [_, _], _ => rfl) (all_cons (o_area_farthest.mono (by decide)) (all_cons (o_area_of.mono (by decide)) (all_cons (o_law_whole_2.mono (by decide)) (all_cons (o_law_due_4.mono (by decide)) all_nil)))) ck_law_right_8 (p_law_right_8 rfl rfl rfl rfl)
  have ol := def_okF (f := 317) (G := GK) (base := base) (P := P) (w := w) (ps := ["script"]) (k := 5) wd F_law_38 sc_law_38 (all_cons (o_law_cell_at.mono (by decide)) (all_cons (o_law_places.mono (by decide)) (all_cons (o_law_bearing_free.mono (by decide)) (all_cons (o_law_bearing_by.mono (by decide)) (all_cons (o_law_right_8.mono (by decide)) (all_cons (o_area_farthest.mono (by decide)) all_nil)))))) ck_law_38 (p_law_38 rfl rfl rfl rfl rfl rfl)
  exact law_end (f := 317) (G := GK) c.nl (fun ns hn Q X q => ⟨ns, rfl, hn, q⟩) ol
end
theorem law_fact {K : PySem.W.Frag} (c : SaysE faK fnK tbK K) : (He.Fa.glo "law").ok K = true := c.d.fact 55 (f := .glo "law") rfl
abbrev RK : PySem.W.OpenRow := PySem.W.OpenLaw.row PySem.Challenge.rw_closehaul_k37_the_farthest_of_an_area
def nm0 : List Str := ["SailError", "NoFraction", "turn_of", "common_measure", "lowest", "is_before", "along", "step_between", "turn_at", "places_sorted", "outer_half", "area_of", "area_farthest", "_law_cell_at", "_law_whole", "_law_measure", "_law_lowest", "_law_mixed", "_law_between", "_law_place_by", "_law_size", "_law_digit", "_law_place_free", "_law_places", "_law_along", "_law_less", "_law_bearing_by", "_law_bearing_free", "_law_due", "_law_right"]
def nmK : List Str := nm0
abbrev hkK : PySem.W.Hook := hookE 4 faK fnK tbK
def obK (s : PySem.W.SharedT) : He.AlD × Bool := obsEG 4 faK fnK tbK (HandSHeadRun.getT s)
theorem obK_eq (s : PySem.W.SharedT) : obK s = hkK.obs s.abs := obsEG_eq (HandSHeadRun.getT_eq s)
theorem runK (w : World) : HandSHeadRun.RunEq RK (PySem.W.view RK.prog [36]) hkK obK 6000 nmK w := by
  intro os
  kernel_rfl
end DL
end
open PySem PySem.W PySem.Calls PyProof.Rows
set_option maxRecDepth 100000 in
set_option maxHeartbeats 0 in
theorem PySem.Challenge.cw_closehaul_k37_the_farthest_of_an_area_holds : PySem.Challenge.rw_closehaul_k37_the_farthest_of_an_area.Holds := by
  w_on; o_law
  refine HandSHeadRun.head_any (r := OpenLaw.row PySem.Challenge.rw_closehaul_k37_the_farthest_of_an_area) (q := view (OpenLaw.row PySem.Challenge.rw_closehaul_k37_the_farthest_of_an_area).prog [36]) (H := DL.hkK) (ob := DL.obK) (M := 6000) (loose := DL.nmK) (d := HandSHeadRun.topDef (OpenLaw.row PySem.Challenge.rw_closehaul_k37_the_farthest_of_an_area).prog 36) (kwd := []) DL.obK_eq
    (by kernel_rfl) (fun s => by kernel_rfl) DL.runK (by kernel_rfl) (by kernel_rfl) (by kernel_rfl) (by rfl) (by first | assumption | decide +kernel) (by decide +kernel) ⟨rfl, rfl, rfl, rfl, rfl, by decide +kernel⟩ ?hw ?hc
  case hw => w_witness2
  case hc =>
    refine DL.walk_w (l := PySem.Challenge.rw_closehaul_k37_the_farthest_of_an_area) (k := 6) (x := "script") rfl (by kernel_rfl) ⟨rfl, by decide, by decide⟩ ?F
    case F =>
      intro w mg fa h Y G em
      obtain ⟨K, KX, c⟩ := Y
      have e : (HandSHeadRun.topDef (OpenLaw.row PySem.Challenge.rw_closehaul_k37_the_farthest_of_an_area).prog 36).name = ("law" : PySem.Str) := by kernel_rfl
      rw [e] at em
      cases em.symm.trans (He.glo_ok KX G (DL.law_fact c))
      obtain ⟨fd, hb, hF⟩ := DL.allK (P := (PySem.Challenge.rw_closehaul_k37_the_farthest_of_an_area).prog) (w := w) KX G c
      exact ⟨K, fd, KX, hb, hF⟩
