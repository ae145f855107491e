import PyProof.Rows.All
import Wide.All
import OpenK.AllK
import Wide.FinOn
import KE.DataEq
import HandS.ForMost
import HandS.ForExc
import HandS.Wide
import HandS.TupAny
import HandS.Deep
import HandS.IsInst
import HandS.Zip
import HandS.Rev
import HandS.HeadHook2
import KE.GoesZip
import KE.GoesMore
import HandS.ListItems
import KE.KDictZip
import HandS.RevTup
import HandS.TupMul
import KE.DataCmp
import HandS.TupSets
import HandS.SortOrd
import HandS.SortRule
import HandS.Set
import KE.DataMinMax
import KE.SortData
import KE.DatumIndex
import KE.DataAny
import HandS.Style
import HandS.ExcCtx
import KE.GoesEnum
import HandS.Conv
import HandS.ExcIs
import HandS.More
import HandS.Head0
import HandS.Head1
import HandS.Head2
import HandS.HeadEnd
import HandS.HeadHook1
import HandS.SuiteRaise
import KE.KStateDown
import PySem.Challenge.RW_closehaul_k25_where_courses_lead
set_option Elab.async false
set_option linter.all false
section
set_option maxRecDepth 100000
set_option maxHeartbeats 4000000
namespace DL
open PySem PySem.Spec PyProof.Rows L2
abbrev D := PyData
inductive R where
  | d (x : D)
  | l (ds : List D) (fr : Bool)
abbrev En := List (Option R)
structure Step (F H F' H' : Hp) : Prop where
  f : Same F F'
  h : Same H H'
  s : ∀ a, H a ≠ none → F a = none → F' a = none
section
variable {K : PySem.W.Frag} {F H F' H' F1 H1 F2 H2 B B' : Hp} {a p : Addr} {xs ys : List V} {ds es : List D}
theorem Step.refl : Step F H F H := ⟨Same.refl _, Same.refl _, fun _ _ h => h⟩
theorem ne_none_of {o : HO} (h : H a = some o) : H a ≠ none := fun z => by rw [z] at h; cases h
theorem some_of_ne (h : H a ≠ none) : ∃ o, H a = some o := by
  cases q : H a with
  | none => exact absurd q h
  | some o => exact ⟨o, rfl⟩
theorem Same.nn (e : Same H H') (h : H a ≠ none) : H' a ≠ none := by
  obtain ⟨o, q⟩ := some_of_ne h
  exact ne_none_of (e a o q)
theorem Step.trans (x : Step F H F1 H1) (y : Step F1 H1 F2 H2) : Step F H F2 H2 :=
  ⟨x.f.trans y.f, x.h.trans y.h, fun a h1 h2 => y.s a (Same.nn x.h h1) (x.s a h1 h2)⟩
theorem SqL.mono (e : Same H H') (h : SqL K H a xs) : SqL K H' a xs := Same.seq e h
theorem SqT.mono (e : Same H H') (h : SqT K H a xs) : SqT K H' a xs := by
  rcases h with (h | ⟨o, h⟩) | h
  · exact .inl (.inl (e _ _ h))
  · exact .inl (.inr ⟨o, e _ _ h⟩)
  · exact .inr h
def Nd (K : PySem.W.Frag) (H : Hp) (a : Addr) : Prop := ∃ o : Obj, ((∃ u, H a = some (.frz o u)) ∨ K.lookup a = some o) ∧ o.dict = none
theorem Nd.mono (e : Same H H') (h : Nd K H a) : Nd K H' a := let ⟨o, q, d⟩ := h; ⟨o, q.imp (fun ⟨u, x⟩ => ⟨u, e _ _ x⟩) id, d⟩
theorem Nd.new {o : Obj} {u : HO} (d : o.dict = none) : Nd K (upd H p (.frz o u)) p := ⟨o, .inl ⟨u, upd_same⟩, d⟩
def isTp : PyData → Bool
  | .tuple _ => true
  | _ => false
def hd1 : List PyData → Bool
  | d :: _ => isTp d
  | [] => false
mutual
inductive Dq (K : PySem.W.Frag) (H : Hp) : V → PyData → Prop
  | non : Dq K H .non .none
  | bl (b : Bool) : Dq K H (.bl b) (.bool b)
  | int (i : Int) : Dq K H (.int i) (.int i)
  | str (x : Str) : Dq K H (.str x) (.str x)
  | lst {a : Addr} {xs : List V} {ds : List PyData} : Rd H a (.lst xs) → DqAll K H xs ds → Dq K H (.ref a) (.list ds)
  | tup {a : Addr} {xs : List V} {ds : List PyData} : SqT K H a xs → (hd1 ds = true → Nd K H a) → DqAll K H xs ds → Dq K H (.ref a) (.tuple ds)
inductive DqAll (K : PySem.W.Frag) (H : Hp) : List V → List PyData → Prop
  | nil : DqAll K H [] []
  | cons {v : V} {vs : List V} {d : PyData} {ds : List PyData} : Dq K H v d → DqAll K H vs ds → DqAll K H (v :: vs) (d :: ds)
end
theorem Rd.mono {o : HO} (e : Same H H') (h : Rd H a o) : Rd H' a o := by
  rcases h with h | ⟨u, h⟩
  · exact .inl (e _ _ h)
  · exact .inr ⟨u, e _ _ h⟩
mutual
theorem Dq.mono (e : Same H H') : ∀ (d : D) (v : V), Dq K H v d → Dq K H' v d
  | .none, _, h => by cases h; exact .non
  | .bool b, _, h => by cases h; exact .bl b
  | .int i, _, h => by cases h; exact .int i
  | .str x, _, h => by cases h; exact .str x
  | .list ds, _, h => by
    cases h with
    | lst h1 h2 => exact .lst (Rd.mono e h1) (DqAll.mono e ds _ h2)
  | .tuple ds, _, h => by
    cases h with
    | tup h1 hn h2 => exact .tup (SqT.mono e h1) (fun z => (hn z).mono e) (DqAll.mono e ds _ h2)
  | .dict _, _, h => by cases h
theorem DqAll.mono (e : Same H H') : ∀ (ds : List D) (vs : List V), DqAll K H vs ds → DqAll K H' vs ds
  | [], _, h => by cases h; exact .nil
  | d :: ds, _, h => by
    cases h with
    | cons h1 h2 => exact .cons (Dq.mono e d _ h1) (DqAll.mono e ds _ h2)
end
mutual
theorem Dq.dp : ∀ (d : D) (v : V), Dq K H v d → Dp K H v d ∧ d.plain = true
  | .none, _, h => by cases h; exact ⟨.non, by simp [PyData.plain]⟩
  | .bool b, _, h => by cases h; exact ⟨.bl b, by simp [PyData.plain]⟩
  | .int i, _, h => by cases h; exact ⟨.int i, by simp [PyData.plain]⟩
  | .str x, _, h => by cases h; exact ⟨.str x, by simp [PyData.plain]⟩
  | .list ds, _, h => by
    cases h with
    | lst h1 h2 => exact ⟨.lst (.inl h1) (DqAll.dp ds _ h2).1, by simpa [PyData.plain] using (DqAll.dp ds _ h2).2⟩
  | .tuple ds, _, h => by
    cases h with
    | tup h1 hn h2 => exact ⟨.tup h1 (DqAll.dp ds _ h2).1, by simpa [PyData.plain] using (DqAll.dp ds _ h2).2⟩
  | .dict _, _, h => by cases h
theorem DqAll.dp : ∀ (ds : List D) (vs : List V), DqAll K H vs ds → DpAll K H vs ds ∧ PyData.plainAll ds = true
  | [], _, h => by cases h; exact ⟨.nil, by simp [PyData.plainAll]⟩
  | d :: ds, _, h => by
    cases h with
    | cons h1 h2 => exact ⟨.cons (Dq.dp d _ h1).1 (DqAll.dp ds _ h2).1, by simp [PyData.plainAll, (Dq.dp d _ h1).2, (DqAll.dp ds _ h2).2]⟩
end
theorem dp_mono {v : V} {d : D} (e : Same H H') (h : Dq K H v d) : Dq K H' v d := Dq.mono e d v h
theorem dpa_mono {vs : List V} {ds : List D} (e : Same H H') (h : DqAll K H vs ds) : DqAll K H' vs ds := DqAll.mono e ds vs h
theorem dpa_len : ∀ {ds : List D} {vs : List V}, DqAll K H vs ds → vs.length = ds.length
  | [], _, h => by cases h; rfl
  | d :: ds, _, h => by
    cases h with
    | cons h1 h2 => rw [List.length_cons, List.length_cons, dpa_len h2]
theorem dpa_get : ∀ {ds : List D} {vs : List V} {i : Nat} {d : D}, DqAll K H vs ds → ds[i]? = some d → ∃ v, vs[i]? = some v ∧ Dq K H v d
  | [], _, _, _, _, e => by simp at e
  | d :: ds, _, 0, _, h, e => by
    cases h with
    | cons h1 h2 => simp at e; subst e; exact ⟨_, rfl, h1⟩
  | d :: ds, _, i + 1, _, h, e => by
    cases h with
    | cons h1 h2 =>
      obtain ⟨v, q1, q2⟩ := dpa_get (i := i) h2 (by simpa using e)
      exact ⟨v, by simpa using q1, q2⟩
theorem dpa_get' : ∀ {ds : List D} {vs : List V} {i : Nat} {v : V}, DqAll K H vs ds → vs[i]? = some v → ∃ d, ds[i]? = some d ∧ Dq K H v d
  | [], _, _, _, h, e => by cases h; simp at e
  | d :: ds, _, 0, _, h, e => by
    cases h with
    | cons h1 h2 => simp at e; subst e; exact ⟨_, rfl, h1⟩
  | d :: ds, _, i + 1, _, h, e => by
    cases h with
    | cons h1 h2 =>
      obtain ⟨v, q1, q2⟩ := dpa_get' (i := i) h2 (by simpa using e)
      exact ⟨v, by simpa using q1, q2⟩
theorem dpa_app : ∀ {ds es : List D} {vs us : List V}, DqAll K H vs ds → DqAll K H us es → DqAll K H (vs ++ us) (ds ++ es)
  | [], _, _, _, h, g => by cases h; exact g
  | d :: ds, _, _, _, h, g => by
    cases h with
    | cons h1 h2 => exact .cons h1 (dpa_app h2 g)
theorem dpa_take : ∀ {ds : List D} {vs : List V} (n : Nat), DqAll K H vs ds → DqAll K H (vs.take n) (ds.take n)
  | _, _, 0, _ => by rw [List.take_zero, List.take_zero]; exact .nil
  | [], _, n + 1, h => by cases h; rw [List.take_nil, List.take_nil]; exact .nil
  | d :: ds, _, n + 1, h => by
    cases h with
    | cons h1 h2 => rw [List.take_succ_cons, List.take_succ_cons]; exact .cons h1 (dpa_take n h2)
theorem dpa_drop : ∀ {ds : List D} {vs : List V} (n : Nat), DqAll K H vs ds → DqAll K H (vs.drop n) (ds.drop n)
  | _, _, 0, h => h
  | [], _, n + 1, h => by cases h; rw [List.drop_nil, List.drop_nil]; exact .nil
  | d :: ds, _, n + 1, h => by
    cases h with
    | cons h1 h2 => exact dpa_drop n h2
theorem dpa_set : ∀ {ds : List D} {vs : List V} {d : D} {v : V} (n : Nat), Dq K H v d → DqAll K H vs ds → DqAll K H (vs.set n v) (ds.set n d)
  | [], _, _, _, n, _, h => by cases h; rw [List.set_nil, List.set_nil]; exact .nil
  | _ :: ds, _, _, _, 0, g, h => by
    cases h with
    | cons h1 h2 => exact .cons g h2
  | _ :: ds, _, _, _, n + 1, g, h => by
    cases h with
    | cons h1 h2 => exact .cons h1 (dpa_set n g h2)
theorem dpa_rev {ds : List D} {vs : List V} (h : DqAll K H vs ds) : DqAll K H vs.reverse ds.reverse := by
  induction ds generalizing vs with
  | nil => cases h; exact .nil
  | cons d ds ih =>
    cases h with
    | cons h1 h2 =>
      rw [List.reverse_cons, List.reverse_cons]
      exact dpa_app (ih h2) (.cons h1 .nil)
theorem dpa_dropLast {ds : List D} {vs : List V} (h : DqAll K H vs ds) : DqAll K H vs.dropLast ds.dropLast := by
  rw [List.dropLast_eq_take, List.dropLast_eq_take, dpa_len h]
  exact dpa_take _ h
theorem dpa_ints : ∀ {ns : List Int} {xs : List V}, DqAll K H xs (ns.map PyData.int) → xs = ns.map V.int
  | [], xs, h => by cases h; rfl
  | n :: ns, xs, h => by
    cases h with
    | cons h1 h2 => cases h1; rw [dpa_ints h2]; rfl
theorem dpa_of_ints : ∀ (ns : List Int), DqAll K H (ns.map V.int) (ns.map PyData.int)
  | [] => .nil
  | n :: ns => .cons (.int n) (dpa_of_ints ns)
theorem dpa_bls : ∀ {ns : List Bool} {xs : List V}, DqAll K H xs (ns.map PyData.bool) → xs = ns.map V.bl
  | [], xs, h => by cases h; rfl
  | n :: ns, xs, h => by
    cases h with
    | cons h1 h2 => cases h1; rw [dpa_bls h2]; rfl
def RV (K : PySem.W.Frag) (B F H : Hp) : R → V → Prop
  | .d x, v => Dq K F v x
  | .l ds fr, v => ∃ a xs, v = .ref a ∧ H a = some (.lst xs) ∧ DqAll K F xs ds ∧ F a = none ∧ (fr = true → B a = none)
theorem RV.step {r : R} {v : V} (h : RV K B F H r v) (s : Step F H F' H') : RV K B F' H' r v := by
  cases r with
  | d x => exact dp_mono s.f h
  | l ds fr =>
    obtain ⟨a, xs, h1, h2, h3, h4, h5⟩ := h
    exact ⟨a, xs, h1, s.h _ _ h2, dpa_mono s.f h3, s.s a (ne_none_of h2) h4, h5⟩
theorem RV.base {r : R} {v : V} (h : RV K B F H r v) (s : Same B' B) : RV K B' F H r v := by
  cases r with
  | d x => exact h
  | l ds fr =>
    obtain ⟨a, xs, h1, h2, h3, h4, h5⟩ := h
    exact ⟨a, xs, h1, h2, h3, h4, fun z => Same.free s (h5 z)⟩
def look : R → D
  | .d x => x
  | .l ds _ => .list ds
theorem RV.look {r : R} {v : V} (h : RV K B F H r v) (fh : Same F H) : Dq K H v (DL.look r) := by
  cases r with
  | d x => exact dp_mono fh h
  | l ds fr =>
    obtain ⟨a, xs, h1, h2, h3, h4, h5⟩ := h
    subst h1
    exact .lst (.inl h2) (dpa_mono fh h3)
theorem same_upd {o : HO} (h : F a = none) : Same F (upd F a o) := fun b u e => by rw [upd_ne (ne_of_none e h)]; exact e
theorem upd_le {o : HO} (fh : Same F H) (h : H a = some o) : Same (upd F a o) H := fun b u e => by
  by_cases hb : b = a
  · subst hb; rw [upd_same] at e; cases e; exact h
  · rw [upd_ne hb] at e; exact fh b u e
theorem Step.new {o : HO} (fh : Same F H) (h : H p = none) : Step F H (upd F p o) (upd H p o) :=
  ⟨same_upd (Same.free fh h), same_upd h, fun a h1 h2 => by rw [upd_ne (fun z => by subst z; exact h1 h)]; exact h2⟩
theorem same_new {o : HO} (fh : Same F H) : Same (upd F p o) (upd H p o) := fun b u e => by
  by_cases hb : b = p
  · subst hb; rw [upd_same] at e ⊢; exact e
  · rw [upd_ne hb] at e ⊢; exact fh b u e
theorem Step.own {o : HO} (fh : Same F H) (h : H p = none) : Step F H F (upd H p o) :=
  ⟨Same.refl _, same_upd h, fun a h1 h2 => h2⟩
theorem same_own {o : HO} (fh : Same F H) (h : H p = none) : Same F (upd H p o) := fun b u e => by
  rw [upd_ne (ne_of_none (fh b u e) h)]; exact fh b u e
def frz : R → Option D
  | .d x => some x
  | .l ds true => some (.list ds)
  | .l _ false => none
theorem RV.frz {r : R} {v : V} {x : D} (h : RV K B F H r v) (fh : Same F H) (e : DL.frz r = some x) : ∃ F', Same F F' ∧ Same F' H ∧ Dq K F' v x ∧ ∀ a, B a ≠ none → F a = none → F' a = none := by
  cases r with
  | d y => cases e; exact ⟨F, Same.refl _, fh, h, fun _ _ z => z⟩
  | l ds fr =>
    cases fr with
    | false => cases e
    | true =>
      cases e
      obtain ⟨a, xs, h1, h2, h3, h4, h5⟩ := h
      subst h1
      refine ⟨upd F a (.lst xs), same_upd h4, upd_le fh h2, .lst (.inl upd_same) (dpa_mono (same_upd h4) h3), fun b hb hf => ?_⟩
      have ne : b ≠ a := fun z => by subst z; exact hb (h5 rfl)
      rw [upd_ne ne]; exact hf
end
section
variable {K : PySem.W.Frag} {F H : Hp} {p : Addr} {xs : List V} {ds : List D}
theorem dq_new {o : Obj} (fh : Same F H) (hp : H p = none) (ho : o.dict = none) (h : DqAll K F xs ds) : Dq K (upd F p (.frz o (.tup xs))) (.ref p) (.tuple ds) :=
  .tup (.inl (.inr ⟨o, upd_same⟩)) (fun _ => Nd.new ho) (dpa_mono (same_upd (Same.free fh hp)) h)
end
structure SR (K : PySem.W.Frag) (F0 H0 F : Hp) (ρ : En) (σ : L2.St) (H : Hp) : Prop where
  fh : Same F H
  ent : Step F0 H0 F H
  len : σ.length = ρ.length
  val : ∀ (i : Nat) (x : D), ρ[i]? = some (some (R.d x)) → ∃ v, σ[i]? = some (some v) ∧ Dq K F v x
  own : ∀ (i : Nat) (ds : List D) (b : Bool), ρ[i]? = some (some (R.l ds b)) → ∃ a xs, σ[i]? = some (some (.ref a)) ∧ H a = some (.lst xs) ∧ DqAll K F xs ds ∧ F a = none ∧ H0 a = none
  sep : ∀ (i j : Nat) (ds es : List D) (b c : Bool) (a : Addr), i ≠ j → ρ[i]? = some (some (R.l ds b)) → ρ[j]? = some (some (R.l es c)) → σ[i]? = some (some (.ref a)) → σ[j]? ≠ some (some (.ref a))
section
variable {K : PySem.W.Frag} {F0 H0 F H F' H' : Hp} {ρ : En} {σ : L2.St}
theorem SR.step (x : SR K F0 H0 F ρ σ H) (s : Step F H F' H') (fh : Same F' H') : SR K F0 H0 F' ρ σ H' where
  fh := fh
  ent := x.ent.trans s
  len := x.len
  val := fun i y e => let ⟨v, h1, h2⟩ := x.val i y e; ⟨v, h1, dp_mono s.f h2⟩
  own := fun i ds b e => let ⟨a, xs, h1, h2, h3, h4, h5⟩ := x.own i ds b e; ⟨a, xs, h1, s.h _ _ h2, dpa_mono s.f h3, s.s a (ne_none_of h2) h4, h5⟩
  sep := x.sep
theorem get_set_some {α : Type} {l : List (Option α)} {i j : Nat} {v w : Option α} (h : (l.set i v)[j]? = some w) : (i = j ∧ v = w) ∨ (i ≠ j ∧ l[j]? = some w) := by
  by_cases e : i = j
  · subst e
    rw [List.getElem?_set] at h
    rw [if_pos rfl] at h
    split at h
    · exact .inl ⟨rfl, Option.some.inj h⟩
    · cases h
  · rw [List.getElem?_set_ne e] at h
    exact .inr ⟨e, h⟩
theorem set_get {α : Type} {l : List (Option α)} {i : Nat} {v : Option α} (h : i < l.length) : (l.set i v)[i]? = some v := by
  rw [List.getElem?_set, if_pos rfl, if_pos h]
theorem lt_of_set {α : Type} {l : List (Option α)} {i : Nat} {v w : Option α} (h : (l.set i v)[i]? = some w) : i < l.length := by
  have := (List.getElem?_eq_some_iff.mp h).1
  simpa using this
theorem SR.setD (x : SR K F0 H0 F ρ σ H) {v : V} {d : D} (h : Dq K F v d) (i : Nat) : SR K F0 H0 F (ρ.set i (some (.d d))) (σ.set i (some v)) H where
  fh := x.fh
  ent := x.ent
  len := by rw [List.length_set, List.length_set]; exact x.len
  val := fun j y e => by
    rcases get_set_some e with ⟨q1, q2⟩ | ⟨q1, q2⟩
    · subst q1
      cases q2
      exact ⟨v, set_get (by rw [x.len]; exact lt_of_set e), h⟩
    · rw [List.getElem?_set_ne q1]
      exact x.val j y q2
  own := fun j ds b e => by
    rcases get_set_some e with ⟨q1, q2⟩ | ⟨q1, q2⟩
    · cases q2
    · rw [List.getElem?_set_ne q1]
      exact x.own j ds b q2
  sep := fun j k ds es b c a ne e1 e2 h1 => by
    rcases get_set_some e1 with ⟨q1, q2⟩ | ⟨q1, q2⟩
    · cases q2
    · rcases get_set_some e2 with ⟨q3, q4⟩ | ⟨q3, q4⟩
      · cases q4
      · rw [List.getElem?_set_ne q1] at h1
        rw [List.getElem?_set_ne q3]
        exact x.sep j k ds es b c a ne q2 q4 h1
theorem SR.setL (x : SR K F0 H0 F ρ σ H) {a : Addr} {xs : List V} {ds : List D} (h : H a = some (.lst xs)) (hd : DqAll K F xs ds) (hf : F a = none) (h0 : H0 a = none)
    (new : ∀ (j : Nat) (es : List D) (c : Bool), ρ[j]? = some (some (R.l es c)) → σ[j]? ≠ some (some (.ref a))) (i : Nat) : SR K F0 H0 F (ρ.set i (some (.l ds true))) (σ.set i (some (.ref a))) H where
  fh := x.fh
  ent := x.ent
  len := by rw [List.length_set, List.length_set]; exact x.len
  val := fun j y e => by
    rcases get_set_some e with ⟨q1, q2⟩ | ⟨q1, q2⟩
    · cases q2
    · rw [List.getElem?_set_ne q1]
      exact x.val j y q2
  own := fun j es b e => by
    rcases get_set_some e with ⟨q1, q2⟩ | ⟨q1, q2⟩
    · subst q1
      cases q2
      exact ⟨a, xs, set_get (by rw [x.len]; exact lt_of_set e), h, hd, hf, h0⟩
    · rw [List.getElem?_set_ne q1]
      exact x.own j es b q2
  sep := fun j k es fs b c a' ne e1 e2 h1 => by
    rcases get_set_some e1 with ⟨q1, q2⟩ | ⟨q1, q2⟩
    · rcases get_set_some e2 with ⟨q3, q4⟩ | ⟨q3, q4⟩
      · exact absurd (q1.symm.trans q3) ne
      · subst q1
        rw [set_get (by rw [x.len]; exact lt_of_set e1)] at h1
        cases h1
        rw [List.getElem?_set_ne q3]
        exact new k fs c q4
    · rcases get_set_some e2 with ⟨q3, q4⟩ | ⟨q3, q4⟩
      · subst q3
        rw [set_get (by rw [x.len]; exact lt_of_set e2)]
        intro z
        cases z
        rw [List.getElem?_set_ne q1] at h1
        exact new j es b q2 h1
      · rw [List.getElem?_set_ne q1] at h1
        rw [List.getElem?_set_ne q3]
        exact x.sep j k es fs b c a' ne q2 q4 h1
theorem SR.unset (x : SR K F0 H0 F ρ σ H) (i : Nat) : SR K F0 H0 F (ρ.set i none) (σ.set i none) H where
  fh := x.fh
  ent := x.ent
  len := by rw [List.length_set, List.length_set]; exact x.len
  val := fun j y e => by
    rcases get_set_some e with ⟨q1, q2⟩ | ⟨q1, q2⟩
    · cases q2
    · rw [List.getElem?_set_ne q1]
      exact x.val j y q2
  own := fun j ds b e => by
    rcases get_set_some e with ⟨q1, q2⟩ | ⟨q1, q2⟩
    · cases q2
    · rw [List.getElem?_set_ne q1]
      exact x.own j ds b q2
  sep := fun j k ds es b c a ne e1 e2 h1 => by
    rcases get_set_some e1 with ⟨q1, q2⟩ | ⟨q1, q2⟩
    · cases q2
    · rcases get_set_some e2 with ⟨q3, q4⟩ | ⟨q3, q4⟩
      · cases q4
      · rw [List.getElem?_set_ne q1] at h1
        rw [List.getElem?_set_ne q3]
        exact x.sep j k ds es b c a ne q2 q4 h1
def wip (ρ : En) : List Nat → En
  | [] => ρ
  | v :: vs => (wip ρ vs).set v none
theorem SR.wip (x : SR K F0 H0 F ρ σ H) : ∀ vs : List Nat, SR K F0 H0 F (DL.wip ρ vs) (wipe σ vs) H
  | [] => x
  | v :: vs => by
    unfold wipe DL.wip
    exact (SR.wip x vs).unset v
theorem SR.put (x : SR K F0 H0 F ρ σ H) {i : Nat} {ds es : List D} {b : Bool} {a : Addr} {ys : List V} (e : ρ[i]? = some (some (R.l ds b))) (h : σ[i]? = some (some (.ref a))) (hd : DqAll K F ys es) :
    SR K F0 H0 F (ρ.set i (some (.l es true))) σ (upd H a (.lst ys)) := by
  obtain ⟨a', xs, g1, g2, g3, g4, g5⟩ := x.own i ds b e
  rw [h] at g1
  cases g1
  have fu : Same F (upd H a (.lst ys)) := fun c u q => by rw [upd_ne (ne_of_none q g4)]; exact x.fh c u q
  refine ⟨fu, ⟨x.ent.f, fun c u q => ?_, x.ent.s⟩, by rw [List.length_set]; exact x.len, fun j y q => ?_, fun j fs c q => ?_, fun j k fs gs c c' a' ne q1 q2 q3 => ?_⟩
  · rw [upd_ne (ne_of_none q g5)]; exact x.ent.h c u q
  · rcases get_set_some q with ⟨q1, q2⟩ | ⟨q1, q2⟩
    · cases q2
    · exact x.val j y q2
  · rcases get_set_some q with ⟨q1, q2⟩ | ⟨q1, q2⟩
    · subst q1
      cases q2
      exact ⟨a, ys, h, upd_same, hd, g4, g5⟩
    · obtain ⟨a2, xs2, k1, k2, k3, k4, k5⟩ := x.own j fs c q2
      refine ⟨a2, xs2, k1, ?_, k3, k4, k5⟩
      rw [upd_ne]
      · exact k2
      · intro z
        subst z
        exact x.sep i j ds fs b c a2 q1 e q2 h k1
  · rcases get_set_some q1 with ⟨p1, p2⟩ | ⟨p1, p2⟩
    · rcases get_set_some q2 with ⟨p3, p4⟩ | ⟨p3, p4⟩
      · exact absurd (p1.symm.trans p3) ne
      · subst p1
        exact x.sep i k ds gs b c' a' ne e p4 q3
    · rcases get_set_some q2 with ⟨p3, p4⟩ | ⟨p3, p4⟩
      · subst p3
        exact x.sep j i fs ds c b a' ne p2 e q3
      · exact x.sep j k fs gs c c' a' ne p2 p4 q3
theorem SR.frz (x : SR K F0 H0 F ρ σ H) {i : Nat} {ds : List D} {b : Bool} (e : ρ[i]? = some (some (R.l ds b))) :
    ∃ F', SR K F0 H0 F' (ρ.set i (some (.d (.list ds)))) σ H ∧ Same F F' := by
  obtain ⟨a, xs, g1, g2, g3, g4, g5⟩ := x.own i ds b e
  have sf : Same F (upd F a (.lst xs)) := same_upd g4
  refine ⟨upd F a (.lst xs), ⟨upd_le x.fh g2, ⟨x.ent.f.trans sf, x.ent.h, fun c h1 h2 => ?_⟩, by rw [List.length_set]; exact x.len, fun j y q => ?_, fun j fs c q => ?_, fun j k fs gs c c' a' ne q1 q2 q3 => ?_⟩, sf⟩
  · have ne : c ≠ a := fun z => by subst z; exact h1 g5
    rw [upd_ne ne]; exact x.ent.s c h1 h2
  · rcases get_set_some q with ⟨q1, q2⟩ | ⟨q1, q2⟩
    · subst q1
      cases q2
      exact ⟨.ref a, g1, .lst (.inl upd_same) (dpa_mono sf g3)⟩
    · obtain ⟨v, k1, k2⟩ := x.val j y q2
      exact ⟨v, k1, dp_mono sf k2⟩
  · rcases get_set_some q with ⟨q1, q2⟩ | ⟨q1, q2⟩
    · cases q2
    · obtain ⟨a2, xs2, k1, k2, k3, k4, k5⟩ := x.own j fs c q2
      refine ⟨a2, xs2, k1, k2, dpa_mono sf k3, ?_, k5⟩
      have ne : a2 ≠ a := fun z => by
        subst z
        exact x.sep i j ds fs b c a2 q1 e q2 g1 k1
      rw [upd_ne ne]; exact k4
  · rcases get_set_some q1 with ⟨p1, p2⟩ | ⟨p1, p2⟩
    · cases p2
    · rcases get_set_some q2 with ⟨p3, p4⟩ | ⟨p3, p4⟩
      · cases p4
      · exact x.sep j k fs gs c c' a' ne p2 p4 q3
end
end DL
end
section
set_option maxRecDepth 100000
set_option maxHeartbeats 4000000
namespace DL
open PySem PySem.Spec PyProof.Rows L2
def NewT (xs : List V) (H : Hp) (Q : VK) : Prop := ∀ (p : Addr) (o : Obj), o.dict = none → H p = none → Q (.ref p) (upd H p (.frz o (.tup xs)))
section
variable {X : Cx} {pins : List (Addr × Obj)} {σ : L2.St} {H : Hp} {s : Shared} {Q : VK}
theorem newT_at {xs : List V} {its : List Value} {h' : Heap} {a : Addr} {tk : Nat} (I : Inv X pins σ H s) (r : Vals xs its) (hz : xs.length ≤ sizeLine) (k : ∀ b o, s.heap.get? b = some o → h'.get? b = some o) (hp : s.heap.objs.size ≤ a)
    (e : h'.get? a = some { cls := .type "tuple", data := .seq its.toArray }) (q : NewT xs H Q) : EP X pins σ Q (.ref a) { s with heap := h', toks := tk } :=
  ⟨.ref a, _, I.laid (o := .frz { cls := .type "tuple", data := .seq its.toArray } (.tup xs)) (t' := tk) k hp (show _ ∧ _ ∧ _ from ⟨e, hz, its, r, ⟨_, e, rfl, _, rfl⟩⟩), rfl, q a { cls := .type "tuple", data := .seq its.toArray } rfl (I.hok.fresh hp)⟩
def tTupX (t : TA) : TE := fun σ H Q => t σ H fun xs H1 => xs.length ≤ sizeLine ∧ NewT xs H1 Q
theorem pe_tupX {es : List Expr} {t : TA} {k : Nat} {pos : Pos} (h : PA X es t) : PE X (.Tuple es k pos) (tTupX t) := by
  refine ⟨fun pins s σ H Q I hq => ?_⟩
  refine wpAny_Tuple_spliced (thn (h.run pos pins s σ H _ I hq) fun us s1 w1 => ?_)
  obtain ⟨xs, H1, I1, r, z, q⟩ := w1
  exact ⟨by rw [← r.length]; exact z, newT_at (tk := s1.toks) I1 r z (fun b u e => Heap.get?_push_of_some _ e) (Nat.le_refl _) (Heap.get?_push_size _ rfl) q⟩
theorem call_tupX : CallR X (.type "tuple") (fun xs H Q => ∃ p ys, xs = [.ref p] ∧ ((SqL X.K H p ys ∧ NewT ys H Q) ∨ (SqT X.K H p ys ∧ Q (.ref p) H))) := by
  intro pins s σ H xs us Q I r h
  obtain ⟨p, ys, rfl, h⟩ := h
  obtain ⟨u, rfl, rx⟩ := vals1 r
  cases rx
  rcases h with ⟨hq, q⟩ | ⟨hq, q⟩
  · obtain ⟨its, r2, pl, hz⟩ := I.list hq
    have hlen := r2.length
    refine call_tuple_list pl.isList (fun h2 kp => ?_) (by simp only [List.size_toArray] <;> omega)
    have I1 : Inv X pins σ H { s with heap := h2 } := I.kept (t' := s.toks) kp
    exact newT_at (s := { s with heap := h2 }) (tk := s.toks) I1 r2 hz (fun b o e => Heap.get?_push_of_some _ e) (Nat.le_refl _) (Heap.get?_push_size _ rfl) q
  · obtain ⟨its, r2, pl, hz⟩ := I.tuple hq
    exact call_tuple_same pl ⟨.ref p, H, I, rfl, q⟩
def rCatX (K : PySem.W.Frag) : R2 := fun x y H Q => ∃ a b xs ys, x = .ref a ∧ y = .ref b ∧ SqT K H a xs ∧ SqT K H b ys ∧ xs.length + ys.length ≤ sizeLine ∧
  (xs = [] → Q (.ref b) H) ∧ (xs ≠ [] → ys = [] → Q (.ref a) H) ∧ (xs ≠ [] → ys ≠ [] → NewT (xs ++ ys) H Q)
theorem op_catX : OpR X (binaryOp .Add) (rCatX X.K) := by
  intro pins s σ H x y v u Q I rx ry h
  obtain ⟨a, b, xs, ys, rfl, rfl, ha, hb, hz, q0, q1, q2⟩ := h
  cases rx
  cases ry
  obtain ⟨its, r1, p1, _⟩ := I.tuple ha
  obtain ⟨its2, r2, p2, _⟩ := I.tuple hb
  by_cases hx : xs = []
  · subst hx
    cases r1
    exact cat_tup0 p1 p2 ⟨.ref b, H, I, rfl, q0 rfl⟩
  · refine HT.cat_tup p1 p2 (fun z => hx (r1.nil_iff.mp z)) (fun z => ⟨.ref a, H, I, rfl, q1 hx (r2.nil_iff.mp z)⟩) (fun z => ?_) (by rw [← r1.length, ← r2.length]; exact hz)
    exact newT_at (tk := s.toks) I (r1.append r2) (by rw [List.length_append]; exact hz) (fun b ob q => Heap.get?_push_of_some _ q) (Nat.le_refl _) (Heap.get?_push_size _ rfl) (q2 hx fun w => z (r2.nil_iff.mpr w))
def rSlX2 (K : PySem.W.Frag) : V → Option Int → Option Int → Hp → VK → Prop := fun x lo hi H Q => ∃ a xs, x = .ref a ∧ SqT K H a xs ∧
  (HT.sIx xs.length 0 lo = 0 ∧ HT.sIx xs.length xs.length hi = xs.length → Q (.ref a) H) ∧ (¬ (HT.sIx xs.length 0 lo = 0 ∧ HT.sIx xs.length xs.length hi = xs.length) → NewT (cutV xs lo hi) H Q)
theorem sl_tupX : SlR X (rSlX2 X.K) := by
  intro pins s σ H x v vl vu lo hi sl Q I rx hs pl pu h
  obtain ⟨a, xs, rfl, hx, q1, q2⟩ := h
  cases rx
  obtain ⟨its, r, ht, hz⟩ := I.tuple hx
  have hlen : its.toArray.size = xs.length := by rw [List.size_toArray]; exact r.length.symm
  refine ⟨"tuple", _, PyProof.Rows.slot_tuple_getitem.lookup, ht.typeIs, ?_⟩
  by_cases hw : HT.sIx xs.length 0 lo = 0 ∧ HT.sIx xs.length xs.length hi = xs.length
  · exact getItem_tuple_whole ht hs pl pu (by rw [hlen]; exact hw) ⟨.ref a, H, I, rfl, q1 hw⟩
  · refine HT.getItem_tuple_cut ht hs pl pu (by rw [hlen]; exact hw) ?_ (by rw [hlen]; exact hz)
    rw [hlen]
    exact newT_at (tk := s.toks) I ((r.drop (HT.sIx xs.length 0 lo)).take (HT.sIx xs.length xs.length hi - HT.sIx xs.length 0 lo)) (Nat.le_trans (cutV_length xs lo hi) hz) (fun b ob q => Heap.get?_push_of_some _ q) (Nat.le_refl _) (Heap.get?_push_size _ rfl) (q2 hw)
end
def SqS (K : PySem.W.Frag) (H : Hp) (t : Bool) (a : Addr) (xs : List V) : Prop := match t with
  | true => SqT K H a xs
  | false => SqL K H a xs
def IterS (h : Heap) (t : Bool) (it a : Addr) (i : Nat) : Prop := match t with
  | true => h.IsTupleIter it a i
  | false => h.IsListIter it a i
def IsS (h : Heap) (t : Bool) (a : Addr) (its : Array Value) : Prop := match t with
  | true => h.IsTuple a its
  | false => h.IsList a its
def itO (t : Bool) (a : Addr) : Obj := match t with
  | true => { cls := .type "tuple_iterator", data := .fields #[.ref a, .int 0 0] }
  | false => { cls := .type "list_iterator", data := .fields #[.ref a, .int 0 0] }
theorem begS (t : Bool) (a : Addr) (its : Array Value) : Begins (.ref a) (itO t a) fun h => IsS h t a its := by
  cases t
  · exact begins_list a its
  · exact begins_tuple a its
theorem IterS.begin {h : Heap} {t : Bool} {it a : Addr} (e : h.get? it = some (itO t a)) : IterS h t it a 0 := by
  cases t
  · exact ⟨_, e, rfl, rfl⟩
  · exact ⟨_, e, rfl, rfl⟩
theorem IterS.at {h h' : Heap} {t : Bool} {it a : Addr} {i : Nat} (x : IterS h t it a i) (k : ∀ o, h.get? it = some o → h'.get? it = some o) : IterS h' t it a i := by
  cases t
  · exact Heap.IsListIter.at x k
  · exact Heap.IsTupleIter.at x k
theorem IterS.obj {h : Heap} {t : Bool} {it a : Addr} {i : Nat} (x : IterS h t it a i) : ∃ o, h.get? it = some o ∧ ∀ v, o.data ≠ .cell v := by
  cases t
  · obtain ⟨o, e, _, d⟩ := x
    exact ⟨o, e, fun v q => by rw [d] at q; cases q⟩
  · obtain ⟨o, e, _, d⟩ := x
    exact ⟨o, e, fun v q => by rw [d] at q; cases q⟩
theorem drawsS {prog : Program} {w : World} {A : Around} (hh : A.handled = none) (t : Bool) (it a : Addr) (hne : a ≠ it) (its : Array Value) :
    Draws prog w A it [it, a] its.size (fun i v => its[i]? = some v) (fun i h => IterS h t it a i ∧ IsS h t a its) := by
  cases t
  · exact Draws.list hh it a hne its
  · exact Draws.tuple hh it a hne its
theorem IsS.lt {h : Heap} {t : Bool} {a : Addr} {its : Array Value} (x : IsS h t a its) : a < h.objs.size := by
  cases t
  · obtain ⟨o, e, _⟩ := x; exact Heap.lt_size e
  · obtain ⟨o, e, _⟩ := x; exact Heap.lt_size e
section
variable {X : Cx} {pins : List (Addr × Obj)} {σ : L2.St} {H : Hp} {s : Shared}
theorem invS (I : Inv X pins σ H s) {t : Bool} {a : Addr} {xs : List V} (h : SqS X.K H t a xs) : ∃ its : List Value, Vals xs its ∧ IsS s.heap t a its.toArray ∧ xs.length ≤ sizeLine := by
  cases t
  · obtain ⟨its, r, p, z⟩ := I.list h
    exact ⟨its, r, p.isList, z⟩
  · obtain ⟨its, r, p, z⟩ := I.tuple h
    exact ⟨its, r, p, z⟩
theorem injS (I : Inv X pins σ H s) {t : Bool} {a : Addr} {xs ys : List V} (h : SqS X.K H t a xs) (g : SqS X.K H t a ys) : xs = ys := by
  cases t
  · exact I.list_inj h g
  · exact I.tuple_inj h g
end
def ItzS (K : PySem.W.Frag) (ta tb : Bool) (a b : Addr) : L2.It :=
  ⟨fun i H => ∃ (xs ys : List V) (x y : V), SqS K H ta a xs ∧ SqS K H tb b ys ∧ xs[i]? = some x ∧ ys[i]? = some y,
    fun i H v H' => ∃ T x y o, v = .ref T ∧ H T = none ∧ o.dict = none ∧ H' = upd H T (.frz o (.tup [x, y])) ∧ (∀ xs, SqS K H ta a xs → xs[i]? = some x) ∧ ∀ ys, SqS K H tb b ys → ys[i]? = some y,
    fun i H => ∃ xs ys : List V, SqS K H ta a xs ∧ SqS K H tb b ys ∧ i = min xs.length ys.length⟩
structure ZS (z TI TO i1 i2 a b : Addr) : Prop where
  TIz : TI ≠ z
  TOz : TO ≠ z
  TITO : TI ≠ TO
  TI1 : TI ≠ i1
  TI2 : TI ≠ i2
  z1 : z ≠ i1
  z2 : z ≠ i2
  T1 : TO ≠ i1
  T2 : TO ≠ i2
  i12 : i1 ≠ i2
  az : z ≠ a
  aT : TO ≠ a
  a1 : a ≠ i1
  a2 : i2 ≠ a
  bz : z ≠ b
  bT : TO ≠ b
  b1 : i1 ≠ b
  b2 : b ≠ i2
theorem ZS.sep {z TI TO i1 i2 a b : Addr} (D : ZS z TI TO i1 i2 a b) : ZipSep2 z TI TO i1 i2 [i1, a] [i2, b] where
  TIz := D.TIz
  TOz := D.TOz
  TITO := D.TITO
  TIi1 := D.TI1
  mem1 := by simp
  zf1 := by simp only [List.mem_cons, List.not_mem_nil, or_false, not_or]; exact ⟨D.z1, D.az⟩
  Tf1 := by simp only [List.mem_cons, List.not_mem_nil, or_false, not_or]; exact ⟨D.T1, D.aT⟩
  TIi2 := D.TI2
  mem2 := by simp
  zf2 := by simp only [List.mem_cons, List.not_mem_nil, or_false, not_or]; exact ⟨D.z2, D.bz⟩
  Tf2 := by simp only [List.mem_cons, List.not_mem_nil, or_false, not_or]; exact ⟨D.T2, D.bT⟩
  sep1_2 := by simp only [List.mem_cons, List.not_mem_nil, or_false, not_or]; exact ⟨D.i12, D.b1⟩
  sep2_1 := by simp only [List.mem_cons, List.not_mem_nil, or_false, not_or]; exact ⟨Ne.symm D.i12, D.a2⟩
theorem ZS.new {n a b : Nat} (ha : a < n) (hb : b < n) : ZS (n + 4) (n + 2) (n + 3) n (n + 1) a b := by
  constructor <;> (intro h; have h : (_ : Nat) = _ := h; omega)
theorem turn_zipS {P : Program} {w : World} {K : PySem.W.Frag} {elts : List Expr} {kk : Nat} {tpos : Pos} {a b z TI TO i1 i2 : Addr} {ta tb : Bool} (D : ZS z TI TO i1 i2 a b) :
    Turn P w K (.Tuple elts kk tpos) (ItzS K ta tb a b) [z, TI, TO, i1, i2] z (fun i h => IsZip h z TI TO .none ∧ IsTupOf2 h TI (.ref i1) (.ref i2) ∧ (∃ x y, IsTupOf2 h TO x y) ∧ IterS h ta i1 a i ∧ IterS h tb i2 b i) where
  mem := by simp
  obj := fun i h st c hc => by
    obtain ⟨hz, hTI, ⟨x, y, hTO⟩, h1, h2⟩ := st
    simp only [List.mem_cons, List.not_mem_nil, or_false] at hc
    rcases hc with q | q | q | q | q <;> rw [q]
    · exact ⟨_, hz, fun v q => nomatch q⟩
    · exact ⟨_, hTI, fun v q => nomatch q⟩
    · exact ⟨_, hTO, fun v q => nomatch q⟩
    · exact h1.obj
    · exact h2.obj
  keep := fun i h h' st k => by
    obtain ⟨hz, hTI, ⟨x, y, hTO⟩, h1, h2⟩ := st
    exact ⟨k z (by simp) _ hz, k TI (by simp) _ hTI, ⟨x, y, k TO (by simp) _ hTO⟩, h1.at fun o q => k i1 (by simp) o q, h2.at fun o q => k i2 (by simp) o q⟩
  item := by
    intro X hP hw hK hc i pins s σ H E I hf st hg
    subst hP hw hK
    obtain ⟨hz, hTI, ⟨x0, y0, hTO⟩, h1, h2⟩ := st
    obtain ⟨xs, ys, x, y, hqx, hqy, hx, hy⟩ := hg
    obtain ⟨its, rv, p, _⟩ := invS I hqx
    obtain ⟨its2, rv2, p2, _⟩ := invS I hqy
    obtain ⟨u, hu, ru⟩ := rv.get hx
    obtain ⟨u2, hu2, ru2⟩ := rv2.get hy
    have l1 : i < its.toArray.size := by rw [List.size_toArray]; exact (List.getElem?_eq_some_iff.mp hu).1
    have l2 : i < its2.toArray.size := by rw [List.size_toArray]; exact (List.getElem?_eq_some_iff.mp hu2).1
    have hzl : z < s.heap.objs.size := Heap.lt_size hz
    refine wpAny_pyNext_zipD2_item D.sep (drawsS (A := X.A.in1) (I.ok.hd hc) ta i1 a D.a1 its.toArray) (drawsS (A := X.A.in1) (I.ok.hd hc) tb i2 b D.b2 its2.toArray) hz hTI hTO ⟨h1, p⟩ ⟨h2, p2⟩ l1 l2 fun x1 x2 h' tk e1 e2 z' TO' s1 s2 hT hsz hk => ?_
    have e1 : x1 = u := by
      have e3 : its[i]? = some x1 := by simpa using e1
      rw [hu] at e3
      exact (Option.some.inj e3).symm
    have e2 : x2 = u2 := by
      have e3 : its2[i]? = some x2 := by simpa using e2
      rw [hu2] at e3
      exact (Option.some.inj e3).symm
    subst e1 e2
    refine ⟨_, rfl, wpAny_letOwnedTupleGo_zip (s := { s with heap := h', toks := tk }) z' fun h'' z'' sb => ?_⟩
    have hT2 : h''.get? s.heap.objs.size = some { cls := .type "tuple", data := .seq [x1, x2].toArray } := (sb.2 _ (Nat.ne_of_gt hzl)).trans hT
    have new : ObjOk X.prog X.w (upd H s.heap.objs.size (.frz { cls := .type "tuple", data := .seq [x1, x2].toArray } (.tup [x, y]))) h'' s.heap.objs.size (.frz { cls := .type "tuple", data := .seq [x1, x2].toArray } (.tup [x, y])) :=
      ⟨hT2, by show 2 ≤ sizeLine; decide, [x1, x2], .cons ru (.cons ru2 .nil), ⟨_, hT2, rfl, _, rfl⟩⟩
    have I1 := I.turnedNew (t' := tk) (h' := h'') (ch := [z, TI, TO, i1, i2]) (fun c o hb q => (sb.2 c (fun q' => hb (by simp [q']))).trans (hk c o (fun q' => hb (by simp [q'])) (fun q' => hb (by simp [q'])) (fun q' => hb (by simp [q'])) (fun q' => hb (by simp [q'])) q)) hf (Nat.le_refl _) new
    refine ⟨.ref s.heap.objs.size, _, I1, rfl, ⟨_, x, y, _, rfl, I.hok.fresh (Nat.le_refl _), rfl, rfl, fun l hl => by rw [injS I hl hqx]; exact hx, fun l hl => by rw [injS I hl hqy]; exact hy⟩, ⟨z'', ?_, ⟨x1, x2, ?_⟩, ?_, ?_⟩, fun c hcm => ?_⟩
    · exact (sb.2 _ D.TIz).trans (hk _ _ D.TIz D.TITO D.TI1 D.TI2 hTI)
    · exact (sb.2 _ D.TOz).trans TO'
    · exact s1.1.at fun o q => (sb.2 _ (Ne.symm D.z1)).trans q
    · exact s2.1.at fun o q => (sb.2 _ (Ne.symm D.z2)).trans q
    · have hlt : c < s.heap.objs.size := by
        simp only [List.mem_cons, List.not_mem_nil, or_false] at hcm
        rcases hcm with q | q | q | q | q <;> rw [q]
        · exact hzl
        · exact Heap.lt_size hTI
        · exact Heap.lt_size hTO
        · obtain ⟨o, e, _⟩ := h1.obj; exact Heap.lt_size e
        · obtain ⟨o, e, _⟩ := h2.obj; exact Heap.lt_size e
      rw [upd_ne (Nat.ne_of_lt hlt)]
      exact (hf c hcm).1
  done := by
    intro X hP hw hK hc i pins s σ H E I hf st hg
    subst hP hw hK
    obtain ⟨hz, hTI, ⟨x0, y0, hTO⟩, h1, h2⟩ := st
    obtain ⟨xs, ys, hqx, hqy, hend⟩ := hg
    obtain ⟨its, rv, p, _⟩ := invS I hqx
    obtain ⟨its2, rv2, p2, _⟩ := invS I hqy
    have l1 := rv.length
    have l2 := rv2.length
    have z1 : its.toArray.size = its.length := List.size_toArray
    have z2 : its2.toArray.size = its2.length := List.size_toArray
    exact wpAny_pyNext_zipD2_end D.sep (drawsS (A := X.A.in1) (I.ok.hd hc) ta i1 a D.a1 its.toArray) (drawsS (A := X.A.in1) (I.ok.hd hc) tb i2 b D.b2 its2.toArray) hz hTI hTO ⟨h1, p⟩ ⟨h2, p2⟩ (by omega) (by omega) (by omega) fun h' tk hk => ⟨rfl, I.turnedL (t' := tk) (ch := [z, TI, TO, i1, i2]) (fun c o hb q =>
      hk c o (fun q' => hb (by simp [q'])) (fun q' => hb (by simp [q'])) (fun q' => hb (by simp [q'])) (fun q' => hb (by simp [q'])) q) hf⟩
  self := fun A i s Q E st h => wpAny_pyIter_zip st.1 h
def iZipS (K : PySem.W.Frag) (t : TA) : TI := fun σ H R => t σ H fun vs H1 => ∃ (a b : Addr) (ta tb : Bool) (xs ys : List V), vs = [.ref a, .ref b] ∧ SqS K H1 ta a xs ∧ SqS K H1 tb b ys ∧ (xs.length ≤ sizeLine → R (ItzS K ta tb a b) H1)
theorem pi_zipS {X : Cx} {e e2 : Expr} {t : TA} {p pos tpos : Pos} {elts : List Expr} {kk : Nat} (hg : Gl X "zip") (hm : X.mg "zip" = none) (ha : PA X [e, e2] t)
    (hs : starEach [e, e2] X.env = (false, eval e X.env) :: starEach [e2] X.env := by rfl) (hpl : (backTo pos (starEach [e2] X.env)).any (·.1) = false := by rfl) :
    PI X (.Tuple elts kk tpos) (.Call (.Name "zip" p) [e, e2] [] pos) (iZipS X.K t) := by
  refine ⟨fun pins s σ H R I h => ?_⟩
  refine Call_ (ld_blt I hg hm PyProof.Rows.boot_zip (PyProof.Rows.callWith_type1 (thn (ha.run pos pins s σ H _ I h) fun us s1 w1 => ?_) hs hpl))
  obtain ⟨vs, H1, I1, r1, a, b, ta, tb, xs, ys, ex, hqx, hqy, q⟩ := w1
  subst ex
  cases r1 with
  | cons r rr =>
    cases rr with
    | cons r' rr =>
      cases rr
      cases r
      cases r'
      obtain ⟨its, rv, p1, hz1⟩ := invS I1 hqx
      obtain ⟨its2, rv2, p2, _⟩ := invS I1 hqy
      refine zip_begins2 (begS ta a its.toArray) (begS tb b its2.toArray) p1 p2 fun h' hz hTI hTO h1 h2 hsz hk => wpAny_pyIter_zip hz ?_
      have I2 : Inv X pins σ H1 { s1 with heap := h' } := I1.kept (t' := s1.toks) hk
      have n := s1.heap.objs.size
      refine ⟨s1.heap.objs.size + 4, [s1.heap.objs.size + 4, s1.heap.objs.size + 2, s1.heap.objs.size + 3, s1.heap.objs.size, s1.heap.objs.size + 1], _, _, H1, rfl, I2, turn_zipS (ta := ta) (tb := tb) (ZS.new p1.lt p2.lt), ⟨hz, hTI, ⟨_, _, hTO⟩, IterS.begin h1, IterS.begin h2⟩, fun c hc => ?_, q hz1⟩
      have hle : s1.heap.objs.size ≤ c := by
        simp only [List.mem_cons, List.not_mem_nil, or_false] at hc
        rcases hc with q | q | q | q | q <;> rw [q] <;> first | exact Nat.le_refl _ | exact Nat.le_add_right _ _
      exact I1.fpOk hle (I1.hok.fresh hle)
end DL
end
section
set_option maxRecDepth 100000
set_option maxHeartbeats 4000000
namespace DL
open PySem PySem.Spec PyProof.Rows L2
structure ItSrc (prog : Program) (w : World) (T : String) (I S : Addr) (wr : List Addr) (n : Nat) (St : Nat → Array Value → Heap → Prop) : Prop where
  type : ∀ i acc (s : Shared), St i acc s.heap → s.TypeIs (.ref I) T
  hint : ∀ (A : Around) acc (s : Shared) (Q : Bool → Shared → Prop) (E : Value → Shared → Prop), St 0 acc s.heap → (∀ b tk, Q b { s with toks := tk }) → wpAny (model prog w) A (Builtin.List.listLengthHint (.ref I)) Q E s
  self : ∀ (A : Around) i acc (s : Shared) (Q : Value → Shared → Prop) (E : Value → Shared → Prop), St i acc s.heap → Q (.ref I) s → wpAny (model prog w) A (pyIter (.ref I)) Q E s
  frame : ∀ i acc h h', St i acc h → (∀ b, b ≠ S → ∀ o, h.get? b = some o → h'.get? b = some o) → St i acc h'
  item : ∀ (A : Around), A.handled = none → ∀ i acc (s : Shared) (Q : Option Value → Shared → Prop) (E : Value → Shared → Prop), i < n → acc.size = i → St i acc s.heap → (∃ o, s.heap.get? S = some o) →
    (∀ v h' tk, St (i + 1) (acc.push v) h' → (∀ b o, b ∉ wr → s.heap.get? b = some o → h'.get? b = some o) → Q (some v) { s with heap := h', toks := tk }) → wpAny (model prog w) A (pyNext (.ref I)) Q E s
  done : ∀ (A : Around), A.handled = none → ∀ acc (s : Shared) (Q : Option Value → Shared → Prop) (E : Value → Shared → Prop), acc.size = n → St n acc s.heap →
    (∀ h' tk, (∀ b o, b ∉ wr → s.heap.get? b = some o → h'.get? b = some o) → Q none { s with heap := h', toks := tk }) → wpAny (model prog w) A (pyNext (.ref I)) Q E s
  notList : (Value.type T == Value.type "list") = false
  notTuple : (Value.type T == Value.type "tuple") = false
  ne : S ≠ I
  off : S ∉ wr
section
variable {prog : Program} {w : World} {A : Around} {E : Value → Shared → Prop} {s : Shared} {T : String} {I S : Addr} {wr : List Addr} {n : Nat} {St : Nat → Array Value → Heap → Prop}
def Left (St : Nat → Array Value → Heap → Prop) (wr : List Addr) (S : Addr) (n : Nat) (h h' : Heap) (acc : Array Value) (c : Nat) : Prop :=
  acc.size = n ∧ (∃ hb, St n acc hb ∧ ∀ b o, b ∉ wr → hb.get? b = some o → b ≠ S → h'.get? b = some o) ∧ (∀ b o, b ≠ S → b ∉ wr → h.get? b = some o → h'.get? b = some o) ∧ h'.get? S = some { cls := .type "list", dict := none, data := .seq acc c, slots := #[] }
theorem loopX {R : Result → Shared → Prop} (W : ItSrc prog w T I S wr n St) (hh : A.handled = none) (hn : n ≤ sizeLine) (res : Value) :
    ∀ (k i : Nat) (s : Shared) (acc : Array Value) (c : Nat), n - i = k → i ≤ n → acc.size = i → St i acc s.heap → s.heap.get? S = some { cls := .type "list", dict := none, data := .seq acc c, slots := #[] } →
    (∀ h' tk acc' c', Left St wr S n s.heap h' acc' c' → R (.ok (.ret res)) { s with heap := h', toks := tk }) → codeAny (model prog w) A (.builtin "list.extend.loop" ⟨[.ref S, .ref I, res], []⟩) R s := by
  intro k
  induction k with
  | zero =>
    intro i s acc c hk hi ha hst hS hR
    have hin : i = n := by omega
    subst hin
    refine codeAny_builtin F.entry_extend_loop ?_
    rw [Around.under_plainId F.plain_extend_loop _]
    show wpAny _ A.in1 (pyNext (.ref I) >>= _) _ _ s
    refine wpAny_bind (W.done A.in1 hh acc s _ _ ha hst fun h' tk hm => ?_)
    exact wpAny_pure (hR h' tk acc c ⟨ha, ⟨s.heap, hst, fun b o hb e _ => hm b o hb e⟩, fun b o _ hb e => hm b o hb e, hm S _ W.off hS⟩)
  | succ k ih =>
    intro i s acc c hk hi ha hst hS hR
    have hlt : i < n := by omega
    refine codeAny_builtin F.entry_extend_loop ?_
    rw [Around.under_plainId F.plain_extend_loop _]
    show wpAny _ A.in1 (pyNext (.ref I) >>= _) _ _ s
    refine wpAny_bind (W.item A.in1 hh i acc s _ _ hlt ha hst ⟨_, hS⟩ fun v h' tk hst' hm => ?_)
    have hS' := hm S _ W.off hS
    show wpAny _ A.in1 (updateSeq S (·.push v) >>= _) _ _ _
    refine wpAny_bind ?_
    refine wpAny_updateSeq (s := { s with heap := h', toks := tk }) hS' rfl (wpAny_pure ⟨plainId_quiet F.plain_extend_loop _, ih (i + 1) _ (acc.push v) _ (by omega) hlt (by rw [Array.size_push, ha]) (W.frame _ _ h' _ hst' fun b hb o e => ?_) (Heap.get?_update_self _ hS' rfl) fun h'' tk'' acc' c' L => ?_⟩)
      (by rw [ha]; omega) (by show (acc.push v).size ≤ sizeLine + 1; rw [Array.size_push, ha]; omega)
    · exact (Heap.get?_update_other _ _ (Ne.symm hb)).trans e
    · obtain ⟨l1, l2, l3, l4⟩ := L
      exact hR h'' tk'' acc' c' ⟨l1, l2, fun b o hb hw e => l3 b o hb hw ((Heap.get?_update_other _ _ (Ne.symm hb)).trans (hm b o hw e)), l4⟩
theorem extendX {R : Result → Shared → Prop} (W : ItSrc prog w T I S wr n St) (hh : A.handled = none) (hn : n ≤ sizeLine) (res : Value) (c₀ : Nat) (hst : St 0 #[] s.heap) (hS : s.heap.get? S = some { cls := .type "list", data := .seq #[] c₀ })
    (hR : ∀ h' tk acc' c', Left St wr S n s.heap h' acc' c' → R (.ok (.ret res)) { s with heap := h', toks := tk }) :
    wpAny (model prog w) A.in1 (Builtin.List.listExtendWith (.ref S) (.ref I) res)
      (fun fin s' => match fin with | .done f => R (.ok f) s' | .again c' => c'.quiet = true ∧ codeAny (model prog w) A c' R s') (fun e s' => R (.error e) s') s := by
  unfold Builtin.List.listExtendWith
  refine wpAny_bind (wpAny_typeOf (T := T) (W.type _ _ s hst) ?_)
  have h1 : Builtin.List.listSameRef (.ref S) (.ref I) = false := by simp [Builtin.List.listSameRef, W.ne]
  simp only [h1, W.notList, W.notTuple, Bool.or_false, Bool.false_eq_true, if_false]
  refine wpAny_bind (W.self _ _ _ _ _ _ hst ?_)
  refine wpAny_bind (wpAny_holding (W.hint _ _ _ _ _ hst fun b tk0 => ?_))
  refine wpAny_ite_split (fun _ => ?_) (fun _ => wpAny_pure ⟨plainId_quiet PySem.F.plain_extend_loop _, loopX W hh hn res n 0 { s with toks := tk0 } #[] c₀ rfl (Nat.zero_le _) rfl hst hS hR⟩)
  refine wpAny_bind (wpAny_rule ?_)
  refine wpAny_bind ?_
  show wpAny _ _ (updateSeq S (·.push .none) >>= fun _ => updateSeq S (·.pop)) _ _ _
  refine wpAny_bind (wpAny_updateSeq (s := { s with toks := tk0 }) hS rfl ?_)
  have hS₂ := Heap.get?_update_self (Obj.mapSeq (·.push Value.none)) hS rfl
  refine wpAny_updateSeq (s := { s with heap := s.heap.update S (Obj.mapSeq (·.push Value.none)), toks := tk0 }) (hz := by seq_fits) hS₂ rfl ?_
  have hS₃ := Heap.get?_update_self (Obj.mapSeq (·.pop)) hS₂ rfl
  have oth : ∀ b o, b ≠ S → s.heap.get? b = some o → ((s.heap.update S (Obj.mapSeq (·.push Value.none))).update S (Obj.mapSeq (·.pop))).get? b = some o :=
    fun b o hb e => (Heap.get?_update_other _ _ (Ne.symm hb)).trans ((Heap.get?_update_other _ _ (Ne.symm hb)).trans e)
  refine wpAny_pure ⟨plainId_quiet PySem.F.plain_extend_loop _, loopX W hh hn res n 0 _ _ _ rfl (Nat.zero_le _) rfl (W.frame _ _ s.heap _ hst fun b hb o e => oth b o hb e) hS₃ fun h' tk acc' c' L => ?_⟩
  obtain ⟨l1, l2, l3, l4⟩ := L
  exact hR h' tk acc' c' ⟨l1, l2, fun b o hb hw e => l3 b o hb hw (oth b o hb e), l4⟩
theorem initX {R : Result → Shared → Prop} (W : ItSrc prog w T I S wr n St) (hh : A.handled = none) (hn : n ≤ sizeLine) (hst : St 0 #[] s.heap) (hS : s.heap.get? S = some { cls := .type "list", data := .seq #[] })
    (hR : ∀ h' tk acc' c', Left St wr S n s.heap h' acc' c' → R (.ok (.ret .none)) { s with heap := h', toks := tk }) :
    wpAny (model prog w) A.in1 (Builtin.«list.__init__» ⟨[.ref S, .ref I], []⟩)
      (fun fin s' => match fin with | .done f => R (.ok f) s' | .again c' => c'.quiet = true ∧ codeAny (model prog w) A c' R s') (fun e s' => R (.error e) s') s := by
  show wpAny _ _ (do let old ← Builtin.List.listItems (.ref S); Builtin.List.listUpdate (.ref S) (fun _ => #[]); letGo old.toList.reverse; Builtin.List.listExtendWith (.ref S) (.ref I) .none) _ _ s
  refine wpAny_bind ?_
  unfold Builtin.List.listItems
  refine wpAny_bind (wpAny_seqItems hS rfl (wpAny_pure ?_))
  show wpAny _ _ (updateSeq S (fun _ => #[]) >>= fun _ => letGo (#[] : Array Value).toList.reverse >>= fun _ => Builtin.List.listExtendWith (.ref S) (.ref I) .none) _ _ s
  refine wpAny_bind (wpAny_updateSeq hS rfl ?_)
  have hS₂ := Heap.get?_update_self (Obj.mapSeq (fun _ => (#[] : Array Value))) hS rfl
  have oth : ∀ b o, b ≠ S → s.heap.get? b = some o → (s.heap.update S (Obj.mapSeq (fun _ => (#[] : Array Value)))).get? b = some o :=
    fun b o hb e => (Heap.get?_update_other _ _ (Ne.symm hb)).trans e
  refine wpAny_bind (wpAny_letGo ?_)
  refine extendX W hh hn .none _ (W.frame _ _ s.heap _ hst fun b hb o e => oth b o hb e) hS₂ fun h' tk acc' c' L => ?_
  obtain ⟨l1, l2, l3, l4⟩ := L
  exact hR h' tk acc' c' ⟨l1, l2, fun b o hb hw e => l3 b o hb hw (oth b o hb e), l4⟩
theorem call_listX {Q : Value → Shared → Prop} (W : ItSrc prog w T I s.heap.objs.size wr n St) (hh : A.handled = none) (hn : n ≤ sizeLine) (hst : ∀ o, St 0 #[] (s.heap.push o))
    (hQ : ∀ h' tk acc' c', Left St wr s.heap.objs.size n s.heap h' acc' c' → Q (.ref s.heap.objs.size) { s with heap := h', toks := tk }) :
    wpAny (model prog w) A (call (.type "list") [.ref I]) Q E s := by
  refine callType_codes (Q₁ := fun obj s₁ => obj = .ref s.heap.objs.size ∧ s₁ = { s with heap := s.heap.push { cls := .type "list", data := .seq #[] } }) PySem.F.called_list (PySem.F.typeCall_list_1 _) PySem.F.entry_list_init
    (code_list_new _ ⟨rfl, rfl⟩) fun obj s₁ h₁ => ?_
  obtain ⟨rfl, rfl⟩ := h₁
  have hS : (s.heap.push { cls := .type "list", data := .seq #[] }).get? s.heap.objs.size = some { cls := .type "list", data := .seq #[] } := Heap.get?_push_size _ rfl
  refine ⟨⟨_, hS, rfl⟩, PySem.F.args_list_init_2 _ _, initX (A := A.in1) W hh hn (hst _) hS fun h' tk acc' c' L => ?_⟩
  obtain ⟨l1, l2, l3, l4⟩ := L
  exact ⟨rfl, hQ h' tk acc' c' ⟨l1, l2, fun b o hb hw e => l3 b o hb hw (Heap.get?_push_of_some _ e), l4⟩⟩
end
theorem zip_nolen : typeLookup (.type "zip") "__len__" = pure none := by rw [typeLookup_type, builtinLookup_eq_fast]; kernel_rfl
theorem zip_nohint : typeLookup (.type "zip") "__length_hint__" = pure none := by rw [typeLookup_type, builtinLookup_eq_fast]; kernel_rfl
section
variable {prog : Program} {w : World} {A : Around} {E : Value → Shared → Prop} {s : Shared} {z TI TO i1 i2 : Addr} {fp1 fp2 : List Addr} {n1 n2 i : Nat} {P1 P2 : Nat → Value → Prop} {St1 St2 : Nat → Heap → Prop}
theorem heldD_item {T : Addr} {f : Bool} {oT : Obj} {Q : Value → Shared → Prop} (S : ZipSep2 z TI TO i1 i2 fp1 fp2) (D1 : Draws prog w A i1 fp1 n1 P1 St1) (D2 : Draws prog w A i2 fp2 n2 P2 St2)
    (hz : PySem.IsZipHeld s.heap z TI TO T f) (hT : s.heap.get? T = some oT) (hTI : IsTupOf2 s.heap TI (.ref i1) (.ref i2)) (st1 : St1 i s.heap) (st2 : St2 i s.heap) (hlt1 : i < n1) (hlt2 : i < n2)
    (hQ : ∀ x1 x2 h' tk, P1 i x1 → P2 i x2 → PySem.IsZipHeld h' z TI TO T true → St1 (i + 1) h' → St2 (i + 1) h' → IsTupOf2 h' s.heap.objs.size x1 x2 →
      (∀ c o, c ≠ z → c ≠ i1 → c ≠ i2 → s.heap.get? c = some o → h'.get? c = some o) → Q (.ref s.heap.objs.size) { s with heap := h', toks := tk }) :
    wpAny (model prog w) A (Builtin.«zip.__next__» ⟨[.ref z], []⟩) (fun fin s' => ∃ v, fin = .done (.ret v) ∧ Q v s') E s := by
  show wpAny _ _ (field (.ref z) 2 >>= _) _ _ _
  refine wpAny_bind (wpAny_field hz rfl (x := .bool false) rfl ?_)
  show wpAny _ _ (field (.ref z) 3 >>= _) _ _ _
  refine wpAny_bind (wpAny_field hz rfl (x := .ref TI) rfl ?_)
  refine wpAny_bind (wpAny_seqItems hTI rfl ?_)
  show wpAny _ _ (Builtin.SmallTypes.ownedTupleIsFree (.ref z) >>= _) _ _ _
  refine wpAny_bind (PySem.wpAny_tupleHeld_zip hz hT fun h₁ hz₁ hs₁ => ?_)
  simp only [Bool.false_eq_true, if_false]
  refine wpAny_bind ?_
  rw [← Array.forIn_toList]
  simp only [List.forIn_cons, List.forIn_nil]
  refine wpAny_bind (wpAny_bind (wpAny_holding ?_))
  show wpAny _ _ (Builtin.SmallTypes.nextOf (.ref i1) >>= _) _ _ _
  refine wpAny_bind (D1.item i { s with heap := h₁ } _ _ hlt1 (D1.over st1 hs₁ S.zf1) fun x1 h₂ tk1 hx1 sn1 hs₂ => wpAny_pure ?_)
  replace hs₂ : Heap.SameBut i1 h₁ h₂ := hs₂
  refine wpAny_pure ?_
  refine wpAny_bind (wpAny_bind (wpAny_holding ?_))
  show wpAny _ _ (Builtin.SmallTypes.nextOf (.ref i2) >>= _) _ _ _
  refine wpAny_bind (D2.item i { s with heap := h₂, toks := tk1 } _ _ hlt2 (D2.over (D2.over st2 hs₁ S.zf2) hs₂ S.sep1_2) fun x2 h₃ tk2 hx2 sn2 hs₃ => wpAny_pure ?_)
  replace hs₃ : Heap.SameBut i2 h₂ h₃ := hs₃
  refine wpAny_pure (wpAny_pure ?_)
  show wpAny _ _ (newTuple [x1, x2] >>= _) _ _ _
  refine wpAny_bind (wpAny_newTuple ?_)
  have hsz : h₃.objs.size = s.heap.objs.size := by rw [hs₃.1, hs₂.1, hs₁.1]
  have hz₃ : PySem.IsZipHeld h₃ z TI TO T true := hs₃.extBut _ _ S.zi2 (hs₂.extBut _ _ S.zi1 hz₁)
  have hk : ∀ c o, c ≠ z → c ≠ i1 → c ≠ i2 → s.heap.get? c = some o → h₃.get? c = some o := fun c o c1 c2 c3 e => hs₃.extBut _ _ c3 (hs₂.extBut _ _ c2 (hs₁.extBut _ _ c1 e))
  have sn1' : St1 (i + 1) h₃ := D1.over sn1 hs₃ S.sep2_1
  refine wpAny_pure ⟨_, rfl, ?_⟩
  show Q (.ref h₃.objs.size) _
  have hp : IsTupOf2 (h₃.push { cls := .type "tuple", data := .seq #[x1, x2] }) h₃.objs.size x1 x2 := Heap.get?_push_size _ rfl
  rw [hsz] at hp ⊢
  exact hQ x1 x2 _ _ hx1 hx2 (Heap.get?_push_of_some _ hz₃) (D1.frame _ _ _ sn1' fun b _ o e => Heap.get?_push_of_some _ e) (D2.frame _ _ _ sn2 fun b _ o e => Heap.get?_push_of_some _ e) hp fun c o c1 c2 c3 e => Heap.get?_push_of_some _ (hk c o c1 c2 c3 e)
theorem heldD_end {T : Addr} {f : Bool} {oT : Obj} {Q : Fin → Shared → Prop} (S : ZipSep2 z TI TO i1 i2 fp1 fp2) (D1 : Draws prog w A i1 fp1 n1 P1 St1) (D2 : Draws prog w A i2 fp2 n2 P2 St2)
    (hz : PySem.IsZipHeld s.heap z TI TO T f) (hT : s.heap.get? T = some oT) (hTI : IsTupOf2 s.heap TI (.ref i1) (.ref i2)) (st1 : St1 i s.heap) (st2 : St2 i s.heap) (hle1 : i ≤ n1) (hle2 : i ≤ n2) (hend : i = n1 ∨ i = n2)
    (hE : ∀ h' tk e, (∀ c o, c ≠ z → c ≠ i1 → c ≠ i2 → s.heap.get? c = some o → h'.get? c = some o) → (∃ o, h'.get? e = some o ∧ o.cls = .type "StopIteration") → E (.ref e) { s with heap := h', toks := tk }) :
    wpAny (model prog w) A (Builtin.«zip.__next__» ⟨[.ref z], []⟩) Q E s := by
  show wpAny _ _ (field (.ref z) 2 >>= _) _ _ _
  refine wpAny_bind (wpAny_field hz rfl (x := .bool false) rfl ?_)
  show wpAny _ _ (field (.ref z) 3 >>= _) _ _ _
  refine wpAny_bind (wpAny_field hz rfl (x := .ref TI) rfl ?_)
  refine wpAny_bind (wpAny_seqItems hTI rfl ?_)
  show wpAny _ _ (Builtin.SmallTypes.ownedTupleIsFree (.ref z) >>= _) _ _ _
  refine wpAny_bind (PySem.wpAny_tupleHeld_zip hz hT fun h₁ hz₁ hs₁ => ?_)
  simp only [Bool.false_eq_true, if_false]
  refine wpAny_bind ?_
  rw [← Array.forIn_toList]
  simp only [List.forIn_cons, List.forIn_nil]
  refine wpAny_bind (wpAny_bind (wpAny_holding ?_))
  show wpAny _ _ (Builtin.SmallTypes.nextOf (.ref i1) >>= _) _ _ _
  by_cases hlt1 : i < n1
  · refine wpAny_bind (D1.item i { s with heap := h₁ } _ _ hlt1 (D1.over st1 hs₁ S.zf1) fun x1 h₂ tk1 hx1 sn1 hs₂ => wpAny_pure ?_)
    replace hs₂ : Heap.SameBut i1 h₁ h₂ := hs₂
    refine wpAny_pure ?_
    refine wpAny_bind (wpAny_bind (wpAny_holding ?_))
    show wpAny _ _ (Builtin.SmallTypes.nextOf (.ref i2) >>= _) _ _ _
    have hi2 : i = n2 := by omega
    refine wpAny_bind (D2.done { s with heap := h₂, toks := tk1 } _ _ (by rw [← hi2]; exact D2.over (D2.over st2 hs₁ S.zf2) hs₂ S.sep1_2) fun h₃ e hs₃ he => ?_)
    replace hs₃ : Heap.ExtBut i2 h₂ h₃ := hs₃
    exact hE h₃ tk1 e (fun c o c1 c2 c3 x => hs₃ _ _ c3 (hs₂.extBut _ _ c2 (hs₁.extBut _ _ c1 x))) he
  · have hi1 : i = n1 := by omega
    refine wpAny_bind (D1.done { s with heap := h₁ } _ _ (by rw [← hi1]; exact D1.over st1 hs₁ S.zf1) fun h₂ e hs₂ he => ?_)
    replace hs₂ : Heap.ExtBut i1 h₁ h₂ := hs₂
    exact hE h₂ s.toks e (fun c o c1 c2 _ x => hs₂ _ _ c2 (hs₁.extBut _ _ c1 x)) he
theorem nextHeld_item {T : Addr} {f : Bool} {oT : Obj} {Q : Option Value → Shared → Prop} (S : ZipSep2 z TI TO i1 i2 fp1 fp2) (D1 : Draws prog w A.in1 i1 fp1 n1 P1 St1) (D2 : Draws prog w A.in1 i2 fp2 n2 P2 St2)
    (hz : PySem.IsZipHeld s.heap z TI TO T f) (hT : s.heap.get? T = some oT) (hTI : IsTupOf2 s.heap TI (.ref i1) (.ref i2)) (st1 : St1 i s.heap) (st2 : St2 i s.heap) (hlt1 : i < n1) (hlt2 : i < n2)
    (hQ : ∀ x1 x2 h' tk, P1 i x1 → P2 i x2 → PySem.IsZipHeld h' z TI TO T true → St1 (i + 1) h' → St2 (i + 1) h' → IsTupOf2 h' s.heap.objs.size x1 x2 →
      (∀ c o, c ≠ z → c ≠ i1 → c ≠ i2 → s.heap.get? c = some o → h'.get? c = some o) → Q (some (.ref s.heap.objs.size)) { s with heap := h', toks := tk }) :
    wpAny (model prog w) A (pyNext (.ref z)) Q E s := by
  have hTy : s.TypeIs (.ref z) "zip" := ⟨_, hz, rfl⟩
  unfold pyNext
  exact wpAny_bind (wpAny_attempt (wpAny_callSpecial?_slot (name := Str.ofString "__next__") hTy PySem.F.slot_zip_next
    (wpAny_call_entry PySem.F.slot_zip_next hTy PySem.F.entry_zip_next
      (heldD_item S D1 D2 hz hT hTI st1 st2 hlt1 hlt2 fun x1 x2 h' tk a1 a2 a3 a4 a5 a6 a7 => wpAny_pure (hQ x1 x2 h' tk a1 a2 a3 a4 a5 a6 a7)) (PySem.F.args_zip_next_1 _))))
theorem nextHeld_end {T : Addr} {f : Bool} {oT : Obj} {Q : Option Value → Shared → Prop} (S : ZipSep2 z TI TO i1 i2 fp1 fp2) (D1 : Draws prog w A.in1 i1 fp1 n1 P1 St1) (D2 : Draws prog w A.in1 i2 fp2 n2 P2 St2)
    (hz : PySem.IsZipHeld s.heap z TI TO T f) (hT : s.heap.get? T = some oT) (hTI : IsTupOf2 s.heap TI (.ref i1) (.ref i2)) (st1 : St1 i s.heap) (st2 : St2 i s.heap) (hle1 : i ≤ n1) (hle2 : i ≤ n2) (hend : i = n1 ∨ i = n2)
    (hQ : ∀ h' tk, (∀ c o, c ≠ z → c ≠ i1 → c ≠ i2 → s.heap.get? c = some o → h'.get? c = some o) → Q none { s with heap := h', toks := tk }) : wpAny (model prog w) A (pyNext (.ref z)) Q E s := by
  have hTy : s.TypeIs (.ref z) "zip" := ⟨_, hz, rfl⟩
  unfold pyNext
  refine wpAny_bind (wpAny_attempt (wpAny_callSpecial?_slot (name := Str.ofString "__next__") hTy PySem.F.slot_zip_next
    (wpAny_call_entry PySem.F.slot_zip_next hTy PySem.F.entry_zip_next (heldD_end S D1 D2 hz hT hTI st1 st2 hle1 hle2 hend fun h' tk e hk he => ?_) (PySem.F.args_zip_next_1 _))))
  obtain ⟨o, ho, hc⟩ := he
  refine wpAny_bind (wpAny_isInstance (T := "StopIteration") (b := true) ⟨o, ho, hc⟩ isSubtype_stop ?_)
  exact wpAny_pure (hQ _ _ hk)
end
theorem Inv.turnedMany {X : Cx} {pins : List (Addr × Obj)} {σ : L2.St} {H H' : Hp} {s : Shared} {h' : Heap} {t' : Nat} {ch : List Addr} (I : Inv X pins σ H s) (k : ∀ b o, b ∉ ch → s.heap.get? b = some o → h'.get? b = some o) (hf : ∀ b ∈ ch, FpOk X pins H b)
    (old : ∀ b u, H b = some u → H' b = some u) (new : ∀ b u, H' b = some u → H b = some u ∨ (s.heap.objs.size ≤ b ∧ ObjOk X.prog X.w H' h' b u)) : Inv X pins σ H' { s with heap := h', toks := t' } := by
  have nit : ∀ b u, H b = some u → b ∉ ch := fun b u e z => by
    have q := (hf b z).1
    rw [q] at e; cases e
  refine I.step (g' := s.gens) (d' := s.drawn) (ch := ch) (fun b hb => ⟨(hf b hb).2.2.2.1, (hf b hb).2.1, (hf b hb).2.2.2.2.1, (hf b hb).2.2.2.2.2⟩) (fun b o _ _ hc e _ => k b o hc e) (fun b o _ _ hc e _ => ⟨o.slots, k b o hc e⟩)
    (fun b o _ e n => ?_) (fun b o hc e => ⟨o, k b o hc e⟩) (fun b xs e => old b _ e) (fun b o u e => old b _ e) (fun b ps e => ⟨#[], by rw [old b _ e]; simp⟩) (fun m hm => ?_) (fun b u e => ?_) I.bare
  · cases q : H' b with
    | none => rfl
    | some u =>
      rcases new b u q with z | ⟨z, _⟩
      · rw [n] at z; cases z
      · exact absurd (Heap.lt_size e) (Nat.not_lt.mpr z)
  · obtain ⟨o, es, ep, ho, r⟩ := hm
    exact ⟨o, es, ep, k _ o (fun z => (hf _ z).2.1 rfl) ho, r⟩
  · rcases new b u e with e | ⟨_, e⟩
    · refine (I.hok b u e).stay (fun c v hc q => k c v ?_ q) (fun c q => old c _ q) fun c xs q => old c _ q
      rcases hc with z | z
      · rw [z]; exact nit b u e
      · exact nit c _ z
    · exact e
def layT : Hp → List Addr → List Obj → List V → List V → Hp
  | H, t :: ts, o :: os, x :: xs, y :: ys => layT (upd H t (.frz o (.tup [x, y]))) ts os xs ys
  | H, _, _, _, _ => H
theorem layT_off {b : Addr} : ∀ (ts : List Addr) (os : List Obj) (xs ys : List V) (H : Hp), b ∉ ts → layT H ts os xs ys b = H b
  | [], _, _, _, _, _ => by unfold layT; rfl
  | t :: ts, [], _, _, _, _ => by unfold layT; rfl
  | t :: ts, o :: os, [], _, _, _ => by unfold layT; rfl
  | t :: ts, o :: os, x :: xs, [], _, _ => by unfold layT; rfl
  | t :: ts, o :: os, x :: xs, y :: ys, H, h => by
    unfold layT
    rw [layT_off ts os xs ys _ (fun z => h (List.mem_cons_of_mem _ z)), upd_ne (fun z => h (by rw [z]; exact List.mem_cons_self))]
theorem layT_in {b : Addr} {u : HO} : ∀ (ts : List Addr) (os : List Obj) (xs ys : List V) (H : Hp), ts.Nodup → layT H ts os xs ys b = some u → H b = some u ∨ ∃ (j : Nat) (o : Obj) (x y : V), ts[j]? = some b ∧ os[j]? = some o ∧ xs[j]? = some x ∧ ys[j]? = some y ∧ u = .frz o (.tup [x, y])
  | [], _, _, _, _, _, h => by unfold layT at h; exact .inl h
  | t :: ts, [], _, _, _, _, h => by unfold layT at h; exact .inl h
  | t :: ts, o :: os, [], _, _, _, h => by unfold layT at h; exact .inl h
  | t :: ts, o :: os, x :: xs, [], _, _, h => by unfold layT at h; exact .inl h
  | t :: ts, o :: os, x :: xs, y :: ys, H, nd, h => by
    unfold layT at h
    rcases layT_in ts os xs ys _ (List.nodup_cons.mp nd).2 h with e | ⟨j, o', x', y', e1, e2, e3, e4, e5⟩
    · by_cases hb : b = t
      · subst hb
        rw [upd_same] at e
        exact .inr ⟨0, o, x, y, rfl, rfl, rfl, rfl, (Option.some.inj e).symm⟩
      · rw [upd_ne hb] at e
        exact .inl e
    · exact .inr ⟨j + 1, o', x', y', e1, e2, e3, e4, e5⟩
theorem layT_old {ts : List Addr} {os : List Obj} {xs ys : List V} {H : Hp} (h : ∀ t ∈ ts, H t = none) : Same H (layT H ts os xs ys) := fun b u e => by
  rw [layT_off _ _ _ _ _ fun z => by rw [h b z] at e; cases e]
  exact e
theorem layT_le : ∀ (ts : List Addr) (os : List Obj) (xs ys : List V) (F H : Hp), Same F H → (∀ t ∈ ts, H t = none) → ts.Nodup → Same (layT F ts os xs ys) (layT H ts os xs ys)
  | [], _, _, _, _, _, s, _, _ => by unfold layT; exact s
  | t :: ts, [], _, _, _, _, s, _, _ => by unfold layT; exact s
  | t :: ts, o :: os, [], _, _, _, s, _, _ => by unfold layT; exact s
  | t :: ts, o :: os, x :: xs, [], _, _, s, _, _ => by unfold layT; exact s
  | t :: ts, o :: os, x :: xs, y :: ys, F, H, s, h, nd => by
    unfold layT
    refine layT_le ts os xs ys _ _ (same_new s) (fun b hb => ?_) (List.nodup_cons.mp nd).2
    rw [upd_ne (fun z => (List.nodup_cons.mp nd).1 (by rw [← z]; exact hb))]
    exact h b (List.mem_cons_of_mem _ hb)
theorem dqa_layT {K : PySem.W.Frag} : ∀ (ts : List Addr) (os : List Obj) (xs ys : List V) (ds es : List D) (F : Hp), (∀ t ∈ ts, F t = none) → ts.Nodup → (∀ o ∈ os, o.dict = none) → ts.length = min xs.length ys.length → os.length = ts.length → DqAll K F xs ds → DqAll K F ys es →
    DqAll K (layT F ts os xs ys) (ts.map V.ref) (ds.zipWith (fun d e => .tuple [d, e]) es)
  | [], _, xs, ys, ds, es, F, _, _, _, hl, _, h, g => by
    have l1 := dpa_len h
    have l2 := dpa_len g
    have : ds.zipWith (fun d e => (.tuple [d, e] : D)) es = [] := by
      apply List.eq_nil_of_length_eq_zero
      rw [List.length_zipWith]
      simp only [List.length_nil] at hl
      omega
    rw [this]
    exact .nil
  | t :: ts, [], _, _, _, _, _, _, _, _, _, h, _, _ => by cases h
  | t :: ts, o :: os, [], _, _, _, _, _, _, _, h, _, _, _ => by simp at h
  | t :: ts, o :: os, x :: xs, [], _, _, _, _, _, _, h, _, _, _ => by simp at h
  | t :: ts, o :: os, x :: xs, y :: ys, ds, es, F, hn, nd, hd, hl, ho, h, g => by
    cases h with
    | cons h1 h2 =>
      cases g with
      | cons g1 g2 =>
        have nf := hn t List.mem_cons_self
        have s1 : Same F (upd F t (.frz o (.tup [x, y]))) := same_upd nf
        have nt : t ∉ ts := (List.nodup_cons.mp nd).1
        have fr : ∀ b ∈ ts, upd F t (.frz o (.tup [x, y])) b = none := fun b hb => by
          rw [upd_ne (fun z => nt (by rw [← z]; exact hb))]
          exact hn b (List.mem_cons_of_mem _ hb)
        have s2 := layT_old (os := os) (xs := xs) (ys := ys) fr
        unfold layT
        rw [List.map_cons, List.zipWith_cons_cons]
        refine .cons ?_ (dqa_layT ts os xs ys _ _ _ fr (List.nodup_cons.mp nd).2 (fun u hu => hd u (List.mem_cons_of_mem _ hu)) (by simp only [List.length_cons] at hl; omega) (Nat.succ.inj ho) (dpa_mono s1 h2) (dpa_mono s1 g2))
        refine dp_mono s2 (.tup (xs := [x, y]) (.inl (.inr ⟨o, upd_same⟩)) (fun _ => Nd.new (hd o List.mem_cons_self)) (dpa_mono s1 (.cons h1 (.cons g1 .nil))))
theorem refs_of : ∀ {l : List Value}, (∀ v ∈ l, ∃ T : Addr, v = Value.ref T) → ∃ ts : List Addr, l = ts.map Value.ref
  | [], _ => ⟨[], rfl⟩
  | v :: l, h => by
    obtain ⟨T, e⟩ := h v List.mem_cons_self
    obtain ⟨ts, e2⟩ := refs_of fun u hu => h u (List.mem_cons_of_mem _ hu)
    exact ⟨T :: ts, by rw [e, e2]; rfl⟩
theorem vals_refs : ∀ as : List Addr, Vals (as.map V.ref) (as.map Value.ref)
  | [] => .nil
  | _ :: as => .cons rfl (vals_refs as)
def ZipSt (z TI TO i1 i2 a b S : Addr) (ta tb : Bool) (its its2 : Array Value) : Nat → Array Value → Heap → Prop := fun i acc h =>
  IsTupOf2 h TI (.ref i1) (.ref i2) ∧ (IterS h ta i1 a i ∧ IsS h ta a its) ∧ (IterS h tb i2 b i ∧ IsS h tb b its2) ∧
  ((IsZip h z TI TO .none ∧ ∃ x y, IsTupOf2 h TO x y) ∨ ∃ T f oT, IsZipHeld h z TI TO T f ∧ h.get? T = some oT ∧ T ≠ z ∧ T ≠ i1 ∧ T ≠ i2 ∧ T ≠ S) ∧
  acc.toList.Nodup ∧ ∀ (j : Nat) (v : Value), acc[j]? = some v → ∃ (T : Addr) (x y : Value), v = Value.ref T ∧ S < T ∧ IsTupOf2 h T x y ∧ its[j]? = some x ∧ its2[j]? = some y
theorem zipSrc {prog : Program} {w : World} {z TI TO i1 i2 a b S : Addr} {ta tb : Bool} {its its2 : Array Value} (D : ZS z TI TO i1 i2 a b) (hz : z < S) (hTI : TI < S) (hTO : TO < S) (h1 : i1 < S) (h2 : i2 < S) (ha : a < S) (hb : b < S) :
    ItSrc prog w "zip" z S [z, TO, i1, i2] (min its.size its2.size) (ZipSt z TI TO i1 i2 a b S ta tb its its2) where
  type := fun i acc s st => by
    obtain ⟨_, _, _, q, _⟩ := st
    rcases q with ⟨q, _⟩ | ⟨T, f, oT, q, _⟩
    · exact ⟨_, q, rfl⟩
    · exact ⟨_, q, rfl⟩
  hint := fun A acc s Q E st h => by
    have hT : s.TypeIs (.ref z) "zip" := by
      obtain ⟨_, _, _, q, _⟩ := st
      rcases q with ⟨q, _⟩ | ⟨T, f, oT, q, _⟩
      · exact ⟨_, q, rfl⟩
      · exact ⟨_, q, rfl⟩
    unfold Builtin.List.listLengthHint
    refine wpAny_bind (wpAny_specialOf hT zip_nolen ?_)
    show wpAny _ A (specialOf (Value.ref z) (Str.ofString "__length_hint__") >>= _) _ _ _
    refine wpAny_bind (wpAny_specialOf hT zip_nohint ?_)
    exact wpAny_pure (h _ s.toks)
  self := fun A i acc s Q E st h => by
    obtain ⟨_, _, _, q, _⟩ := st
    have hT : s.TypeIs (.ref z) "zip" := by
      rcases q with ⟨q, _⟩ | ⟨T, f, oT, q, _⟩
      · exact ⟨_, q, rfl⟩
      · exact ⟨_, q, rfl⟩
    refine wpAny_pyIter_slot hT PySem.F.slot_zip_iter (wpAny_call_entry PySem.F.slot_zip_iter hT PySem.F.entry_zip_iter ?_ (PySem.F.args_zip_iter_1 _))
    show wpAny _ _ (ret (.ref z)) _ _ s
    exact wpAny_pure ⟨_, rfl, "zip", _, hT, PySem.F.slot_zip_next.lookup, h⟩
  frame := fun i acc h h' st k => by
    obtain ⟨q1, ⟨q2, q3⟩, ⟨q4, q5⟩, q6, q7, q8⟩ := st
    have ne : ∀ {c : Addr}, c < S → c ≠ S := fun h => Nat.ne_of_lt h
    refine ⟨k _ (ne hTI) _ q1, ⟨q2.at fun o e => k _ (ne h1) o e, ?_⟩, ⟨q4.at fun o e => k _ (ne h2) o e, ?_⟩, ?_, q7, fun j v e => ?_⟩
    · cases ta
      · exact Heap.IsList.at q3 fun o e => k _ (ne ha) o e
      · exact Heap.IsTuple.at q3 fun o e => k _ (ne ha) o e
    · cases tb
      · exact Heap.IsList.at q5 fun o e => k _ (ne hb) o e
      · exact Heap.IsTuple.at q5 fun o e => k _ (ne hb) o e
    · rcases q6 with ⟨q, x, y, q'⟩ | ⟨T, f, oT, r1, r2, r3, r4, r5, r6⟩
      · exact .inl ⟨k _ (ne hz) _ q, x, y, k _ (ne hTO) _ q'⟩
      · exact .inr ⟨T, f, oT, k _ (ne hz) _ r1, k _ r6 _ r2, r3, r4, r5, r6⟩
    · obtain ⟨T, x, y, e1, e2, e3, e4, e5⟩ := q8 j v e
      exact ⟨T, x, y, e1, e2, k _ (Nat.ne_of_gt e2) _ e3, e4, e5⟩
  item := fun A hh i acc s Q E hi hac st hSo hQ => by
    obtain ⟨q1, ⟨q2, q3⟩, ⟨q4, q5⟩, q6, q7, q8⟩ := st
    have d1 := drawsS (prog := prog) (w := w) (A := A.in1) hh ta i1 a D.a1 its
    have d2 := drawsS (prog := prog) (w := w) (A := A.in1) hh tb i2 b D.b2 its2
    have l1 : i < its.size := by omega
    have l2 : i < its2.size := by omega
    have out : ∀ {T : Addr}, S < T → T ≠ z ∧ T ≠ TO ∧ T ≠ i1 ∧ T ≠ i2 := fun h => ⟨fun e => by rw [e] at h; exact absurd hz (Nat.lt_asymm h), fun e => by rw [e] at h; exact absurd hTO (Nat.lt_asymm h), fun e => by rw [e] at h; exact absurd h1 (Nat.lt_asymm h), fun e => by rw [e] at h; exact absurd h2 (Nat.lt_asymm h)⟩
    have zl : ∃ o, s.heap.get? z = some o := by
      rcases q6 with ⟨q, _⟩ | ⟨T, f, oT, q, _⟩ <;> exact ⟨_, q⟩
    have big : S < s.heap.objs.size := Heap.lt_size hSo.choose_spec
    have fin : ∀ (x1 x2 : Value) (h' : Heap) (tk : Nat), its[i]? = some x1 → its2[i]? = some x2 → (∃ f, IsZipHeld h' z TI TO s.heap.objs.size f ∨ ∃ T oT, IsZipHeld h' z TI TO T f ∧ h'.get? T = some oT ∧ T ≠ z ∧ T ≠ i1 ∧ T ≠ i2 ∧ T ≠ S) → IterS h' ta i1 a (i + 1) ∧ IsS h' ta a its → IterS h' tb i2 b (i + 1) ∧ IsS h' tb b its2 → IsTupOf2 h' s.heap.objs.size x1 x2 →
        (∀ c o, c ≠ z → c ≠ TO → c ≠ i1 → c ≠ i2 → s.heap.get? c = some o → h'.get? c = some o) → Q (some (.ref s.heap.objs.size)) { s with heap := h', toks := tk } := by
      intro x1 x2 h' tk e1 e2 hz' s1 s2 hT hk
      refine hQ (.ref s.heap.objs.size) h' tk ⟨hk _ _ D.TIz D.TITO D.TI1 D.TI2 q1, s1, s2, ?_, ?_, fun j v e => ?_⟩ fun c o hc e => hk c o (fun q => hc (by simp [q])) (fun q => hc (by simp [q])) (fun q => hc (by simp [q])) (fun q => hc (by simp [q])) e
      · obtain ⟨o1, o2, o3, o4⟩ := out big
        obtain ⟨f, q | ⟨T, oT, q⟩⟩ := hz'
        · exact .inr ⟨_, f, _, q, hT, o1, o3, o4, Nat.ne_of_gt big⟩
        · exact .inr ⟨T, f, oT, q⟩
      · rw [Array.toList_push, List.nodup_append]
        refine ⟨q7, by simp, fun v hv u hu => ?_⟩
        rw [List.mem_singleton] at hu
        intro e
        rw [e, hu] at hv
        obtain ⟨j, hj, ej⟩ := List.getElem_of_mem hv
        obtain ⟨T, x, y, f1, f2, f3, _⟩ := q8 j (Value.ref s.heap.objs.size) (by rw [← Array.getElem?_toList, List.getElem?_eq_getElem hj, ej])
        cases f1
        exact absurd (Heap.lt_size f3) (Nat.lt_irrefl _)
      · rw [Array.getElem?_push] at e
        split at e
        · rename_i ej
          cases e
          rw [hac] at ej
          exact ⟨_, x1, x2, rfl, big, hT, by rw [ej]; exact e1, by rw [ej]; exact e2⟩
        · obtain ⟨T, x, y, f1, f2, f3, f4, f5⟩ := q8 j v e
          obtain ⟨o1, o2, o3, o4⟩ := out f2
          exact ⟨T, x, y, f1, f2, hk _ _ o1 o2 o3 o4 f3, f4, f5⟩
    rcases q6 with ⟨q, x0, y0, q'⟩ | ⟨T, f, oT, r1, r2, r3, r4, r5, r6⟩
    · · refine wpAny_pyNext_zipD2_item D.sep d1 d2 q q1 q' ⟨q2, q3⟩ ⟨q4, q5⟩ l1 l2 fun x1 x2 h' tk e1 e2 z' TO' s1 s2 hT hsz hk => ?_
        exact fin x1 x2 h' tk e1 e2 ⟨false, .inl z'⟩ s1 s2 hT hk
    · · refine nextHeld_item D.sep d1 d2 r1 r2 q1 ⟨q2, q3⟩ ⟨q4, q5⟩ l1 l2 fun x1 x2 h' tk e1 e2 z' s1 s2 hT hk => ?_
        exact fin x1 x2 h' tk e1 e2 ⟨true, .inr ⟨T, oT, z', hk _ _ r3 r4 r5 r2, r3, r4, r5, r6⟩⟩ s1 s2 hT fun c o c1 _ c3 c4 e => hk c o c1 c3 c4 e
  done := fun A hh acc s Q E hac st hQ => by
    obtain ⟨q1, ⟨q2, q3⟩, ⟨q4, q5⟩, q6, q7, q8⟩ := st
    have d1 := drawsS (prog := prog) (w := w) (A := A.in1) hh ta i1 a D.a1 its
    have d2 := drawsS (prog := prog) (w := w) (A := A.in1) hh tb i2 b D.b2 its2
    rcases q6 with ⟨q, x0, y0, q'⟩ | ⟨T, f, oT, r1, r2, r3, r4, r5, r6⟩
    · exact wpAny_pyNext_zipD2_end D.sep d1 d2 q q1 q' ⟨q2, q3⟩ ⟨q4, q5⟩ (by omega) (by omega) (by omega) fun h' tk hk => hQ h' tk fun c o hc e => hk c o (fun q => hc (by simp [q])) (fun q => hc (by simp [q])) (fun q => hc (by simp [q])) (fun q => hc (by simp [q])) e
    · exact nextHeld_end D.sep d1 d2 r1 r2 q1 ⟨q2, q3⟩ ⟨q4, q5⟩ (by omega) (by omega) (by omega) fun h' tk hk => hQ h' tk fun c o hc e => hk c o (fun q => hc (by simp [q])) (fun q => hc (by simp [q])) (fun q => hc (by simp [q])) e
  notList := by decide
  notTuple := by decide
  ne := Nat.ne_of_gt hz
  off := by simp only [List.mem_cons, List.not_mem_nil, or_false, not_or]; exact ⟨Nat.ne_of_gt hz, Nat.ne_of_gt hTO, Nat.ne_of_gt h1, Nat.ne_of_gt h2⟩
end DL
end
section
set_option maxRecDepth 100000
set_option maxHeartbeats 4000000
namespace DL
open PySem PySem.Spec PyProof.Rows L2
def tListZip (K : PySem.W.Frag) (t : TA) : TE := fun σ H Q => t σ H fun vs H1 => ∃ (a b : Addr) (ta tb : Bool) (xs ys : List V), vs = [.ref a, .ref b] ∧ SqS K H1 ta a xs ∧ SqS K H1 tb b ys ∧
  ∀ (p : Addr) (ts : List Addr) (os : List Obj), H1 p = none → (∀ t ∈ ts, H1 t = none) → p ∉ ts → ts.Nodup → (∀ o ∈ os, o.dict = none) → ts.length = min xs.length ys.length → os.length = ts.length → Q (.ref p) (upd (layT H1 ts os xs ys) p (.lst (ts.map V.ref)))
section
variable {X : Cx}
theorem zip_of {e e2 : Expr} {t : TA} {p pos : Pos} (hg : Gl X "zip") (hm : X.mg "zip" = none) (ha : PA X [e, e2] t)
    (hs : starEach [e, e2] X.env = (false, eval e X.env) :: starEach [e2] X.env) (hpl : (backTo pos (starEach [e2] X.env)).any (·.1) = false)
    {pins : List (Addr × Obj)} {s : Shared} {σ : L2.St} {H : Hp} {R : List V → Hp → Prop} (I : Inv X pins σ H s) (h : t σ H R) {Q : Value → Shared → Prop}
    (q : ∀ (s1 : Shared) (vs : List V) (H1 : Hp), Inv X pins σ H1 s1 → R vs H1 → ∀ (us : List Value), Vals vs us → wpAny (model X.prog X.w) X.A (call (.type "zip") us) Q X.xe s1) :
    wpAny (model X.prog X.w) X.A (eval (.Call (.Name "zip" p) [e, e2] [] pos) X.env) Q X.xe s := by
  refine Call_ (ld_blt I hg hm PyProof.Rows.boot_zip (PyProof.Rows.callWith_type1 (thn (ha.run pos pins s σ H _ I h) fun us s1 w1 => ?_) hs hpl))
  obtain ⟨vs, H1, I1, r1, w⟩ := w1
  exact q s1 vs H1 I1 w us r1
theorem pe_listZip {e e2 : Expr} {t : TA} {p p2 pos pos2 : Pos} (hc : X.calm = true) (hg : Gl X "list") (hm : X.mg "list" = none) (hg2 : Gl X "zip") (hm2 : X.mg "zip" = none) (ha : PA X [e, e2] t)
    (hs : starEach [e, e2] X.env = (false, eval e X.env) :: starEach [e2] X.env := by rfl) (hpl : (backTo pos2 (starEach [e2] X.env)).any (·.1) = false := by rfl)
    (hs2 : starEach [.Call (.Name "zip" p2) [e, e2] [] pos2] X.env = (false, eval (.Call (.Name "zip" p2) [e, e2] [] pos2) X.env) :: starEach [] X.env := by rfl) :
    PE X (.Call (.Name "list" p) [.Call (.Name "zip" p2) [e, e2] [] pos2] [] pos) (tListZip X.K t) := by
  refine ⟨fun pins s σ H Q I h => ?_⟩
  refine Call_ (ld_blt I hg hm boot_list (PyProof.Rows.callWith_type1 (args_cons (zip_of hg2 hm2 ha hs hpl I h fun s1 vs H1 I1 q us r1 => ?_) hs2) hs2 rfl))
  obtain ⟨a, b, ta, tb, xs, ys, ex, hqx, hqy, q⟩ := q
  subst ex
  cases r1 with
  | cons r rr =>
    cases rr with
    | cons r' rr =>
      cases rr
      cases r
      cases r'
      obtain ⟨its, rv, p1, hz1⟩ := invS I1 hqx
      obtain ⟨its2, rv2, p2, hz2⟩ := invS I1 hqy
      refine zip_begins2 (begS ta a its.toArray) (begS tb b its2.toArray) p1 p2 fun h' hz hTI hTO h1 h2 hsz hk => args_nil ?_
      have I2 : Inv X pins σ H1 { s1 with heap := h' } := I1.kept (t' := s1.toks) hk
      obtain ⟨n, hn⟩ : ∃ n, n = s1.heap.objs.size := ⟨_, rfl⟩
      rw [← hn] at hz hTI hTO h1 h2 hsz ⊢
      have hsz' : h'.objs.size = n + 5 := hsz
      have al : a < n := by rw [hn]; exact p1.lt
      have bl : b < n := by rw [hn]; exact p2.lt
      have la := rv.length
      have lb := rv2.length
      have src := zipSrc (prog := X.prog) (w := X.w) (S := h'.objs.size) (ta := ta) (tb := tb) (its := its.toArray) (its2 := its2.toArray) (ZS.new (n := n) al bl) (by rw [hsz']; exact Nat.add_lt_add_left (by decide) n) (by rw [hsz']; exact Nat.add_lt_add_left (by decide) n) (by rw [hsz']; exact Nat.add_lt_add_left (by decide) n)
        (by rw [hsz']; exact Nat.lt_add_of_pos_right (by decide)) (by rw [hsz']; exact Nat.add_lt_add_left (by decide) n) (by rw [hsz']; exact Nat.lt_trans al (Nat.lt_add_of_pos_right (by decide))) (by rw [hsz']; exact Nat.lt_trans bl (Nat.lt_add_of_pos_right (by decide)))
      have kp : ∀ (o : Obj) (c : Addr) (u : Obj), h'.get? c = some u → (h'.push o).get? c = some u := fun o c u e => Heap.get?_push_of_some _ e
      refine call_listX (s := { s1 with heap := h' }) src (I2.ok.hd hc) (by rw [List.size_toArray, List.size_toArray]; omega) (fun o => ⟨kp o _ _ hTI, ⟨IterS.begin (kp o _ _ h1), ?_⟩, ⟨IterS.begin (kp o _ _ h2), ?_⟩, .inl ⟨kp o _ _ hz, _, _, kp o _ _ hTO⟩, by simp, fun j v e => by simp at e⟩) fun h'' tk acc c L => ?_
      · cases ta
        · exact Heap.IsList.at p1 fun u e => kp o _ _ (hk _ _ e)
        · exact Heap.IsTuple.at p1 fun u e => kp o _ _ (hk _ _ e)
      · cases tb
        · exact Heap.IsList.at p2 fun u e => kp o _ _ (hk _ _ e)
        · exact Heap.IsTuple.at p2 fun u e => kp o _ _ (hk _ _ e)
      obtain ⟨l1, ⟨hb, ⟨_, _, _, _, nd, tups⟩, l2⟩, l3, l4⟩ := L
      have mn : min its.toArray.size its2.toArray.size = min xs.length ys.length := by rw [List.size_toArray, List.size_toArray, la, lb]
      rw [mn] at l1
      obtain ⟨ts, ets⟩ := refs_of (l := acc.toList) fun v hv => by
        obtain ⟨j, hj, ej⟩ := List.getElem_of_mem hv
        obtain ⟨T, x, y, e1, _⟩ := tups j v (by rw [← Array.getElem?_toList, List.getElem?_eq_getElem hj, ej])
        exact ⟨T, e1⟩
      have lt : ts.length = min xs.length ys.length := by
        have := congrArg List.length ets
        rw [List.length_map, Array.length_toList] at this
        omega
      have ndt : ts.Nodup := by
        rw [ets] at nd
        exact (List.pairwise_map.mp nd).imp fun h z => h (by rw [z])
      have wrS : ∀ c ∈ [n + 4, n + 3, n, n + 1], c < h'.objs.size := fun c hc => by
        rw [hsz']
        simp only [List.mem_cons, List.not_mem_nil, or_false] at hc
        rcases hc with q | q | q | q <;> rw [q] <;> first | exact Nat.add_lt_add_left (by decide) n | exact Nat.lt_add_of_pos_right (by decide)
      have at_ : ∀ (j : Nat) (T : Addr), ts[j]? = some T → ∃ x y, h'.objs.size < T ∧ IsTupOf2 h'' T x y ∧ its[j]? = some x ∧ its2[j]? = some y := fun j T e => by
        obtain ⟨T', x, y, e1, e2, e3, e4, e5⟩ := tups j (.ref T) (by rw [← Array.getElem?_toList, ets, List.getElem?_map, e]; rfl)
        cases e1
        refine ⟨x, y, e2, l2 _ _ (fun hm => absurd (wrS _ hm) (Nat.lt_asymm e2)) e3 (Nat.ne_of_gt e2), by simpa using e4, by simpa using e5⟩
      have mem_at : ∀ T ∈ ts, ∃ j, ts[j]? = some T := fun T hT => by
        obtain ⟨j, hj, e⟩ := List.getElem_of_mem hT
        exact ⟨j, by rw [List.getElem?_eq_getElem hj, e]⟩
      have gt : ∀ T ∈ ts, h'.objs.size < T := fun T hT => by
        obtain ⟨j, e⟩ := mem_at T hT
        obtain ⟨x, y, e2, _⟩ := at_ j T e
        exact e2
      have frT : ∀ T ∈ ts, H1 T = none := fun T hT => I2.hok.fresh (Nat.le_of_lt (gt T hT))
      have frp : H1 h'.objs.size = none := I2.hok.fresh (Nat.le_refl _)
      have pn : h'.objs.size ∉ ts := fun hT => Nat.lt_irrefl _ (gt _ hT)
      -- the tuples' objects
      obtain ⟨os, los, hos⟩ : ∃ os : List Obj, os.length = ts.length ∧ ∀ (j : Nat) (T : Addr), ts[j]? = some T → ∃ o x y, os[j]? = some o ∧ o.dict = none ∧ h''.get? T = some o ∧ its[j]? = some x ∧ its2[j]? = some y ∧ o = { cls := .type "tuple", data := .seq #[x, y] } := by
        refine ⟨(List.range ts.length).map fun j => { cls := .type "tuple", data := .seq #[its.getD j .none, its2.getD j .none] }, by simp, fun j T e => ?_⟩
        obtain ⟨x, y, e2, e3, e4, e5⟩ := at_ j T e
        have hj : j < ts.length := (List.getElem?_eq_some_iff.mp e).1
        have g1 : its.getD j .none = x := by rw [List.getD_eq_getElem?_getD, e4]; rfl
        have g2 : its2.getD j .none = y := by rw [List.getD_eq_getElem?_getD, e5]; rfl
        refine ⟨_, x, y, by rw [List.getElem?_map, List.getElem?_range hj]; rfl, rfl, ?_, e4, e5, ?_⟩
        · show h''.get? T = some _
          dsimp only
          rw [g1, g2]
          exact e3
        · dsimp only
          rw [g1, g2]
      have hd : ∀ o ∈ os, o.dict = none := fun o ho => by
        obtain ⟨j, hj, e⟩ := List.getElem_of_mem ho
        obtain ⟨o', x, y, e1, e2, _⟩ := hos j ts[j] (List.getElem?_eq_getElem (by omega))
        rw [List.getElem?_eq_getElem hj, e] at e1
        rw [Option.some.inj e1]
        exact e2
      have frp' : layT H1 ts os xs ys h'.objs.size = none := by rw [layT_off _ _ _ _ _ pn]; exact frp
      refine ⟨.ref h'.objs.size, upd (layT H1 ts os xs ys) h'.objs.size (.lst (ts.map V.ref)), ?_, rfl, q _ ts os frp frT pn ndt hd lt los⟩
      refine Inv.turnedMany (ch := [n + 4, n + 3, n, n + 1]) I2 (fun c o hc e => l3 c o (Nat.ne_of_lt (Heap.lt_size e)) hc e) (fun c hc => ?_) (fun c u e => ?_) fun c u e => ?_
      · refine I1.fpOk ?_ (I1.hok.fresh ?_) <;> (rw [← hn]; simp only [List.mem_cons, List.not_mem_nil, or_false] at hc; rcases hc with q | q | q | q <;> rw [q] <;> first | exact Nat.le_refl _ | exact Nat.le_add_right _ _)
      · rw [upd_ne (fun z => by rw [z, frp] at e; cases e)]
        exact layT_old frT c u e
      · by_cases hcp : c = h'.objs.size
        · subst hcp
          rw [upd_same] at e
          cases e
          refine .inr ⟨Nat.le_refl _, ?_⟩
          refine ⟨by rw [List.length_map]; omega, acc.toList, c, by rw [ets]; exact vals_refs ts, ?_⟩
          rw [Array.toArray_toList]
          exact l4
        · rw [upd_ne hcp] at e
          rcases layT_in _ _ _ _ _ ndt e with e | ⟨j, o, x, y, e1, e2, e3, e4, e5⟩
          · exact .inl e
          · subst e5
            obtain ⟨o', x', y', f1, f2, f3, f4, f5, f6⟩ := hos j c e1
            rw [e2] at f1
            cases f1
            obtain ⟨x2, g1, g2⟩ := rv.get e3
            obtain ⟨y2, g3, g4⟩ := rv2.get e4
            rw [f4] at g1
            cases g1
            rw [f5] at g3
            cases g3
            have gtc := gt c (List.mem_of_getElem? e1)
            refine .inr ⟨Nat.le_of_lt gtc, f3, by show 2 ≤ sizeLine; decide, [x', y'], .cons g2 (.cons g4 .nil), ⟨o, f3, by rw [f6], _, by rw [f6]⟩⟩
end
def RevSt (it l S : Addr) (items : Array Value) : Nat → Array Value → Heap → Prop := fun i acc h =>
  i ≤ items.size ∧ h.IsRevIter it l ((items.size : Int) - 1 - (i : Int)) ∧ h.IsList l items ∧ ∀ (j : Nat) (v : Value), acc[j]? = some v → items[items.size - 1 - j]? = some v
theorem revSrc {prog : Program} {w : World} {it l S : Addr} {items : Array Value} (hne : l ≠ it) (h1 : it < S) (h2 : l < S) : ItSrc prog w "list_reverseiterator" it S [it] items.size (RevSt it l S items) where
  type := fun i acc s st => Heap.IsRevIter.typeIs st.2.1
  hint := fun A acc s Q E st h => by
    have hT : s.TypeIs (.ref it) "list_reverseiterator" := Heap.IsRevIter.typeIs st.2.1
    unfold Builtin.List.listLengthHint
    refine wpAny_bind (wpAny_specialOf hT RT.nolen_lri ?_)
    show wpAny _ A (specialOf (Value.ref it) (Str.ofString "__length_hint__") >>= _) _ _ _
    refine wpAny_bind (wpAny_specialOf hT RT.hint_lri ?_)
    generalize hid : ("list_reverseiterator.__length_hint__" : String) = id0
    wp_delta
    rw [show splitId id0 = some ("list_reverseiterator", "__length_hint__") from by subst hid; decide +kernel]
    subst hid
    refine wpAny_bind (wpAny_isInstance (b := true) hT (by rw [isSubtype_type]; kernel_rfl) ?_)
    exact wpAny_pure (h _ s.toks)
  self := fun A i acc s Q E st h => wpAny_pyIter_revIter st.2.1 h
  frame := fun i acc h h' st k => ⟨st.1, st.2.1.at fun o e => k it (Nat.ne_of_lt h1) o e, st.2.2.1.at fun o e => k l (Nat.ne_of_lt h2) o e, st.2.2.2⟩
  item := fun A hh i acc s Q E hi hac st _ hQ => by
    obtain ⟨q1, q2, q3, q4⟩ := st
    refine (Walks.listRev (prog := prog) (w := w) (A := A) hh it l hne items).item i s Q E hi ⟨q1, q2, q3⟩ fun v h' tk hv st' hk => ?_
    refine hQ v h' tk ⟨st'.1, st'.2.1, st'.2.2, fun j u e => ?_⟩ hk
    rw [Array.getElem?_push] at e
    split at e
    · rename_i ej
      cases e
      rw [hac] at ej
      rw [ej]
      exact hv
    · exact q4 j u e
  done := fun A hh acc s Q E hac st hQ => by
    obtain ⟨q1, q2, q3, q4⟩ := st
    exact (Walks.listRev (prog := prog) (w := w) (A := A) hh it l hne items).done s Q E ⟨q1, q2, q3⟩ fun h' tk hk => hQ h' tk hk
  notList := by decide
  notTuple := by decide
  ne := Nat.ne_of_gt h1
  off := by simp only [List.mem_cons, List.not_mem_nil, or_false]; exact Nat.ne_of_gt h1
def tLstRev (K : PySem.W.Frag) (te : TE) : TE := fun σ H Q => te σ H fun v H1 => ∃ (a : Addr) (xs : List V), v = .ref a ∧ SqL K H1 a xs ∧ ∀ q, H1 q = none → Q (.ref q) (upd H1 q (.lst xs.reverse))
theorem pe_listRev {X : Cx} {e : Expr} {te : TE} {p p2 pos pos2 : Pos} (hc : X.calm = true) (hg : Gl X "list") (hm : X.mg "list" = none) (hg2 : Gl X "reversed") (hm2 : X.mg "reversed" = none) (he : PE X e te)
    (hs : starEach [e] X.env = (false, eval e X.env) :: starEach [] X.env := by rfl)
    (hs2 : starEach [.Call (.Name "reversed" p2) [e] [] pos2] X.env = (false, eval (.Call (.Name "reversed" p2) [e] [] pos2) X.env) :: starEach [] X.env := by rfl) :
    PE X (.Call (.Name "list" p) [.Call (.Name "reversed" p2) [e] [] pos2] [] pos) (tLstRev X.K te) := by
  refine ⟨fun pins s σ H Q I h => ?_⟩
  refine Call_ (ld_blt I hg hm boot_list (PyProof.Rows.callWith_type1 (args_cons (Call_ (ld_blt I hg2 hm2 PyProof.Rows.boot_reversed (PyProof.Rows.callWith_type1 (args_cons (thn (he.run pins s σ H _ I h) fun u s1 ⟨v, H1, I1, r1, q1⟩ => args_nil ?_) hs) hs rfl))) hs2) hs2 rfl))
  obtain ⟨a, xs, ev, hq, q⟩ := q1
  subst ev
  obtain rfl : u = Value.ref a := r1
  obtain ⟨its, rv, p', hz⟩ := I1.list hq
  have hl := p'.isList
  obtain ⟨ol, hol, _⟩ := id hl
  have hlt : a < s1.heap.objs.size := Heap.lt_size hol
  refine call_reversed_list hl (args_nil ?_)
  have k0 : ∀ b o, s1.heap.get? b = some o → (s1.heap.push (revObj a ((its.toArray.size : Int) - 1))).get? b = some o := fun b o e => Heap.get?_push_of_some _ e
  have I2 : Inv X pins σ H1 { s1 with heap := s1.heap.push (revObj a ((its.toArray.size : Int) - 1)) } := I1.kept (t' := s1.toks) k0
  have hsz : (s1.heap.push (revObj a ((its.toArray.size : Int) - 1))).objs.size = s1.heap.objs.size + 1 := Heap.size_push ..
  have hn : its.toArray.size ≤ sizeLine := by rw [List.size_toArray, ← rv.length]; exact hz
  have src := revSrc (prog := X.prog) (w := X.w) (it := s1.heap.objs.size) (l := a) (S := (s1.heap.push (revObj a ((its.toArray.size : Int) - 1))).objs.size) (items := its.toArray) (Nat.ne_of_lt hlt) (by rw [hsz]; exact Nat.lt_succ_self _) (by rw [hsz]; exact Nat.lt_succ_of_lt hlt)
  refine call_listX (s := { s1 with heap := s1.heap.push (revObj a ((its.toArray.size : Int) - 1)) }) src (I2.ok.hd hc) hn (fun o => ⟨Nat.zero_le _, ?_, (hl.push _).push _, fun j v e => by simp at e⟩) fun h' tk acc cc L => ?_
  · have e0 : (its.toArray.size : Int) - 1 - ((0 : Nat) : Int) = (its.toArray.size : Int) - 1 := by omega
    rw [e0]
    exact ⟨_, Heap.get?_push_of_some _ (Heap.get?_push_size _ rfl), rfl, rfl⟩
  obtain ⟨l1, ⟨hb, ⟨_, _, _, hv⟩, l2⟩, l3, l4⟩ := L
  have frS : H1 (s1.heap.push (revObj a ((its.toArray.size : Int) - 1))).objs.size = none := I2.hok.fresh (Nat.le_refl _)
  refine ⟨.ref (s1.heap.push (revObj a ((its.toArray.size : Int) - 1))).objs.size, upd H1 (s1.heap.push (revObj a ((its.toArray.size : Int) - 1))).objs.size (.lst xs.reverse), ?_, rfl, q _ frS⟩
  refine Inv.turnedMany (ch := [s1.heap.objs.size]) I2 (fun c o hc e => l3 c o (Nat.ne_of_lt (Heap.lt_size e)) hc e) (fun c hc => ?_) (fun c u e => ?_) fun c u e => ?_
  · rw [List.mem_singleton.mp hc]
    exact I1.fpOk (Nat.le_refl _) (I1.hok.fresh (Nat.le_refl _))
  · rw [upd_ne (fun z => by rw [z, frS] at e; cases e)]
    exact e
  · by_cases hcp : c = (s1.heap.push (revObj a ((its.toArray.size : Int) - 1))).objs.size
    · subst hcp
      rw [upd_same] at e
      cases e
      refine .inr ⟨Nat.le_refl _, ?_⟩
      refine ⟨by rw [List.length_reverse]; exact hz, acc.toList, cc, RT.vals_rev rv ⟨l1, hv⟩, ?_⟩
      rw [Array.toArray_toList]
      exact l4
    · rw [upd_ne hcp] at e
      exact .inl e
end DL
end
section
set_option maxRecDepth 100000
set_option maxHeartbeats 4000000
namespace DL
open PySem PySem.Spec PyProof.Rows L2
theorem rt_nolen : typeLookup (.type "reversed") "__len__" = pure none := by rw [typeLookup_type, builtinLookup_eq_fast]; kernel_rfl
theorem rt_hint : typeLookup (.type "reversed") "__length_hint__" = pure (some (.builtin "reversed.__length_hint__")) := by rw [typeLookup_type, builtinLookup_eq_fast]; kernel_rfl
theorem rt_slot : Slot "reversed" "__length_hint__" "reversed.__length_hint__" := Slot.of (owner := "reversed") (n := "__length_hint__") rt_hint
  (by decide +kernel) (by decide +kernel) (by decide +kernel) (by first | exact .inl (by decide +kernel) | exact .inr (by decide +kernel)) (by rw [isSubtype_type]; kernel_rfl)
theorem rt_entry : entryFor table "reversed.__length_hint__" = some Builtin.«reversed.__length_hint__» := entryFor_of_tree (by kernel_rfl)
theorem rt_args (a : Value) : argsOk "reversed.__length_hint__" ⟨[a], []⟩ := by
  unfold argsOk
  rw [signature?_of (id := "reversed.__length_hint__") (n := ['_', '_', 't', 'n', 'i', 'h', '_', 'h', 't', 'g', 'n', 'e', 'l', '_', '_']) (o := ['d', 'e', 's', 'r', 'e', 'v', 'e', 'r']) (by kernel_rfl) RT.owner_rt]
  kernel_rfl
def RtSt (it t : Addr) (items : Array Value) : Nat → Array Value → Heap → Prop := fun i acc h =>
  i ≤ items.size ∧ RT.IsRt h it t ((items.size : Int) - 1 - (i : Int)) ∧ IsTup h t items ∧ ∀ (j : Nat) (v : Value), acc[j]? = some v → items[items.size - 1 - j]? = some v
theorem rtSrc {prog : Program} {w : World} {it t S : Addr} {items : Array Value} (hne : t ≠ it) (h1 : it < S) (h2 : t < S) (hn : items.size ≤ sizeLine) : ItSrc prog w "reversed" it S [it] items.size (RtSt it t items) where
  type := fun i acc s st => RT.IsRt.typeIs st.2.1
  hint := fun A acc s Q E st h => by
    have hT : s.TypeIs (.ref it) "reversed" := RT.IsRt.typeIs st.2.1
    unfold Builtin.List.listLengthHint
    refine wpAny_bind (wpAny_specialOf hT rt_nolen ?_)
    show wpAny _ A (specialOf (Value.ref it) (Str.ofString "__length_hint__") >>= _) _ _ _
    refine wpAny_bind (wpAny_specialOf hT rt_hint ?_)
    generalize eid : ("reversed.__length_hint__" : String) = id0
    wp_delta
    rw [show splitId id0 = some ("reversed", "__length_hint__") from by subst eid; decide +kernel]
    subst eid
    refine wpAny_bind (wpAny_isInstance (b := true) hT (by rw [isSubtype_type]; kernel_rfl) ?_)
    rw [if_neg (by decide)]
    rw [if_neg (by decide +kernel)]
    refine wpAny_bind (wpAny_rule ?_)
    rw [rt_slot.bind]
    refine wpAny_bind (wpAny_pure ?_)
    refine wpAny_bind (wpAny_attempt (wpAny_call_entry rt_slot hT rt_entry ?_ (rt_args _)))
    obtain ⟨q1, q2, q3, q6⟩ := st
    obtain ⟨o2, r1, r2, r3⟩ := q2
    unfold Builtin.«reversed.__length_hint__»
    refine wpAny_bind (wpAny_of_eq (a := Value.ref it) rfl ?_)
    refine wpAny_bind (wpAny_field r1 r3 (x := .ref t) rfl ?_)
    rw [if_neg (by simp)]
    rw [sizeLine_eq] at hn
    refine wpAny_bind (PyProof.Rows.len_tuple q3 (by omega) ?_)
    refine wpAny_bind (wpAny_of_eq (a := some ((items.size : Nat) : Int)) rfl ?_)
    try dsimp only
    refine wpAny_bind (wpAny_field (s := { s with toks := s.toks + 1 + 1 }) r1 r3 (x := rawInt ((items.size : Int) - 1 - ((0 : Nat) : Int))) rfl ?_)
    show wpAny _ _ (if (items.size : Int) < ((items.size : Int) - 1 - ((0 : Nat) : Int)) + 1 then _ else _) _ _ _
    rw [if_neg (by omega)]
    unfold retInt
    refine wpAny_bind (wpAny_mkInt (wpAny_pure ⟨_, rfl, ?_⟩))
    have big : sizeLine = 16777216 := sizeLine_eq
    refine wpAny_bind (wpAny_of_eq (a := some (((items.size : Int) - 1 - ((0 : Nat) : Int)) + 1)) rfl ?_)
    try dsimp only
    have z1 : Builtin.List.listFitsIndex ((items.size : Int) - 1 - ((0 : Nat) : Int) + 1) = true := by
      unfold Builtin.List.listFitsIndex
      simp
      omega
    have z2 : Builtin.List.listTooLong ((items.size : Int) - 1 - ((0 : Nat) : Int) + 1).toNat = false := by
      unfold Builtin.List.listTooLong
      simp
      omega
    rw [if_neg (by rw [z1]; decide), if_neg (by omega), if_neg (by rw [z2]; decide)]
    exact wpAny_pure (h _ _)
  self := fun A i acc s Q E st h => RT.iter_rt st.2.1 h
  frame := fun i acc h h' st k => ⟨st.1, st.2.1.at fun o e => k it (Nat.ne_of_lt h1) o e, (by obtain ⟨o, e, r⟩ := st.2.2.1; exact ⟨o, k t (Nat.ne_of_lt h2) o e, r⟩), st.2.2.2⟩
  item := fun A hh i acc s Q E hi hac st _ hQ => by
    obtain ⟨q1, q2, q3, q4⟩ := st
    have e1 : (items.size : Int) - 1 - (i : Int) = ((items.size - 1 - i : Nat) : Int) := by omega
    rw [e1] at q2
    have lt : items.size - 1 - i < items.size := by omega
    refine RT.next_rt_item q2 q3 (Array.getElem?_eq_getElem lt) hn fun h' r' sb => ?_
    refine hQ _ h' _ ⟨hi, ?_, (by obtain ⟨o, e, r⟩ := q3; exact ⟨o, (sb.2 t hne).trans e, r⟩), fun j u e => ?_⟩ fun b o hb e => ?_
    · have e2 : (items.size : Int) - 1 - ((i + 1 : Nat) : Int) = ((items.size - 1 - i : Nat) : Int) - 1 := by omega
      rw [e2]
      exact r'
    · rw [Array.getElem?_push] at e
      split at e
      · rename_i ej
        cases e
        rw [hac] at ej
        rw [ej]
        exact Array.getElem?_eq_getElem lt
      · exact q4 j u e
    · exact (sb.2 b (by simpa using hb)).trans e
  done := fun A hh acc s Q E hac st hQ => by
    obtain ⟨q1, q2, q3, q4⟩ := st
    have e1 : (items.size : Int) - 1 - (items.size : Int) = -1 := by omega
    rw [e1] at q2
    exact RT.next_rt_end hh q2 fun h' x => hQ h' s.toks fun b o hb e => x b o (by simpa using hb) e
  notList := by decide
  notTuple := by decide
  ne := Nat.ne_of_gt h1
  off := by simp only [List.mem_cons, List.not_mem_nil, or_false]; exact Nat.ne_of_gt h1
section
variable {prog : Program} {w : World} {A : Around} {E : Value → Shared → Prop} {s : Shared} {T : String} {I : Addr} {wr : List Addr} {n : Nat} {St : Nat → Array Value → Heap → Prop}
theorem iaddX {R : Result → Shared → Prop} {S : Addr} (W : ItSrc prog w T I S wr n St) (hh : A.handled = none) (hn : n ≤ sizeLine) (st : St 0 #[] s.heap) (at_ : s.heap.get? S = some { cls := .type "list", data := .seq #[] })
    (q : ∀ h' tk acc' c', Left St wr S n s.heap h' acc' c' → R (.ok (.ret (.ref S))) { s with heap := h', toks := tk }) : codeAny (model prog w) A (.builtin "list.__iadd__" ⟨[.ref S, .ref I], []⟩) R s := by
  refine codeAny_builtin PySem.F.entry_list_iadd ?_
  rw [Around.under_plainId PySem.F.plain_list_iadd _]
  exact extendX W hh hn (.ref S) 0 st at_ q
theorem collectX {Q : List Value → Shared → Prop} (W : ItSrc prog w T I s.heap.objs.size wr n St) (hh : A.handled = none) (hn : n ≤ sizeLine) (st : ∀ o, St 0 #[] (s.heap.push o))
    (q : ∀ h' tk acc' c', Left St wr s.heap.objs.size n s.heap h' acc' c' → Q acc'.toList { s with heap := h', toks := tk }) : wpAny (model prog w) A (collect (.ref I)) Q E s := by
  unfold collect
  refine wpAny_bind (wpAny_runValue (codeAny_builtin PySem.F.entry_proto_collect ?_))
  rw [Around.under_plainId PySem.F.plain_proto_collect _]
  show wpAny (model prog w) A.in1 (newList [] >>= fun x => again (.builtin "list.__iadd__" ⟨[x, .ref I], []⟩)) _ _ s
  have at_ : (s.heap.push { cls := .type "list", data := .seq ([] : List Value).toArray }).get? s.heap.objs.size = some { cls := .type "list", data := .seq #[] } := Heap.get?_push_size _ rfl
  refine wpAny_bind (wpAny_newObj_type (wpAny_pure ⟨plainId_quiet PySem.F.plain_list_iadd _, iaddX (s := { s with heap := s.heap.push { cls := .type "list", data := .seq ([] : List Value).toArray } }) W hh hn (st _) at_ fun h' tk acc' c' L => ?_⟩))
  obtain ⟨l1, l2, l3, l4⟩ := L
  show wpAny (model prog w) A (load s.heap.objs.size >>= _) _ _ _
  refine wpAny_bind (wpAny_load l4 (wpAny_pure ?_))
  exact q h' tk acc' c' ⟨l1, l2, fun b o hb hw e => l3 b o hb hw (Heap.get?_push_of_some _ e), l4⟩
theorem new_tupleX {Q : Value → Shared → Prop} (W : ItSrc prog w T I s.heap.objs.size wr n St) (hh : A.handled = none) (hn : n ≤ sizeLine) (st : ∀ o, St 0 #[] (s.heap.push o)) (ty : ∀ s : Shared, s.TypeIs (.ref I) T → True) (hT : s.TypeIs (.ref I) T)
    (q : ∀ h' tk acc' c', Left St wr s.heap.objs.size n s.heap h' acc' c' → Q (.ref h'.objs.size) { s with heap := h'.push { cls := .type "tuple", data := .seq acc' }, toks := tk }) :
    codeAny (model prog w) A (.call (.builtin "tuple.__new__") ⟨[.type "tuple", .ref I], []⟩) (wants Q E) s := by
  refine codeAny_of_tree ?_
  show wpAny (model prog w) A.in1 (checkBuiltinCall "tuple.__new__" ⟨[.type "tuple", .ref I], []⟩ >>= fun _ => again (.builtin "tuple.__new__" ⟨[.type "tuple", .ref I], []⟩)) _ _ s
  refine wpAny_bind (wpAny_of_eq (PySem.F.newCall_tuple_1 _) (wpAny_pure ⟨plainId_quiet PySem.F.plain_tuple_new _, codeAny_builtin PySem.F.entry_tuple_new ?_⟩))
  rw [Around.under_plainId PySem.F.plain_tuple_new _]
  have e1 := sub_tuple_self
  have e2 := init_tuple_lookup
  have e3 := madeHere_tuple
  have h2 : A.in1.handled = none := hh
  wp_walk using wpAny_typeOf hT, collectX (A := A.in1) W h2 hn st
  rw [if_neg (by rw [W.notTuple]; decide)]
  refine wpAny_bind (collectX (A := A.in1) W h2 hn st fun h' tk acc c L => ?_)
  refine wpAny_bind (wpAny_pure ?_)
  show wpAny _ _ (Builtin.Tuple.tupleExact acc.toList.toArray >>= fun v => ret v) _ _ _
  unfold Builtin.Tuple.tupleExact
  have ea : acc.toList.toArray = acc := by simp
  rw [ea]
  refine wpAny_bind (wpAny_newObj_type (wpAny_pure ?_) (by show acc.size ≤ sizeLine; rw [L.1]; exact hn))
  exact q h' tk acc c L
theorem call_tupleX {Q : Value → Shared → Prop} (W : ItSrc prog w T I s.heap.objs.size wr n St) (hh : A.handled = none) (hn : n ≤ sizeLine) (st : ∀ o, St 0 #[] (s.heap.push o)) (hT : s.TypeIs (.ref I) T)
    (q : ∀ h' tk acc' c', Left St wr s.heap.objs.size n s.heap h' acc' c' → Q (.ref h'.objs.size) { s with heap := h'.push { cls := .type "tuple", data := .seq acc' }, toks := tk }) :
    wpAny (model prog w) A (call (.type "tuple") [.ref I]) Q E s := by
  refine callType_codes (Q₁ := fun o s₁ => s₁.TypeIs o "tuple" ∧ Q o s₁) PySem.F.called_tuple (PySem.F.typeCall_tuple_1 _) PySem.F.entry_object_init
    (new_tupleX (A := A.in1) W hh hn st (fun _ _ => trivial) hT fun h' tk acc c L => ⟨⟨_, Heap.get?_push_size _ rfl, rfl⟩, q h' tk acc c L⟩) fun o s₁ h₁ => ?_
  exact ⟨h₁.1, PySem.F.args_object_init_2 o _, object_init_meets PySem.F.called_tuple.init.lookup PySem.F.called_tuple.made (by decide) prog w A.in1 _ s₁ ⟨h₁.1, rfl, h₁.2⟩⟩
end
end DL
namespace DL
open PySem PySem.Spec PyProof.Rows L2
def tTupRev (K : PySem.W.Frag) (te : TE) : TE := fun σ H Q => te σ H fun v H1 => ∃ (a : Addr) (xs : List V), v = .ref a ∧ SqT K H1 a xs ∧ ∀ (q : Addr) (o : Obj), o.dict = none → H1 q = none → Q (.ref q) (upd H1 q (.frz o (.tup xs.reverse)))
theorem pe_tupRevT {X : Cx} {e : Expr} {te : TE} {p p2 pos pos2 : Pos} (hc : X.calm = true) (hg : Gl X "tuple") (hm : X.mg "tuple" = none) (hg2 : Gl X "reversed") (hm2 : X.mg "reversed" = none) (he : PE X e te)
    (hs : starEach [e] X.env = (false, eval e X.env) :: starEach [] X.env := by rfl)
    (hs2 : starEach [.Call (.Name "reversed" p2) [e] [] pos2] X.env = (false, eval (.Call (.Name "reversed" p2) [e] [] pos2) X.env) :: starEach [] X.env := by rfl) :
    PE X (.Call (.Name "tuple" p) [.Call (.Name "reversed" p2) [e] [] pos2] [] pos) (tTupRev X.K te) := by
  refine ⟨fun pins s σ H Q I h => ?_⟩
  refine Call_ (ld_blt I hg hm PyProof.Rows.boot_tuple (PyProof.Rows.callWith_type1 (args_cons (Call_ (ld_blt I hg2 hm2 PyProof.Rows.boot_reversed (PyProof.Rows.callWith_type1 (args_cons (thn (he.run pins s σ H _ I h) fun u s1 ⟨v, H1, I1, r1, q1⟩ => args_nil ?_) hs) hs rfl))) hs2) hs2 rfl))
  obtain ⟨a, xs, ev, hq, q⟩ := q1
  subst ev
  obtain rfl : u = Value.ref a := r1
  obtain ⟨its, rv, hl, hz⟩ := I1.tuple hq
  obtain ⟨ol, hol, _⟩ := id hl
  have hlt : a < s1.heap.objs.size := Heap.lt_size hol
  have hn : its.toArray.size ≤ sizeLine := by rw [List.size_toArray, ← rv.length]; exact hz
  have hfit : ¬ (its.toArray.size : Int) ≥ 2 ^ 63 := by rw [sizeLine_eq] at hn; omega
  refine RT.call_reversed_tup hl (fun A E Q q => PyProof.Rows.len_tuple hl (by omega) q) (args_nil ?_)
  obtain ⟨S0, eS0⟩ : ∃ S0, S0 = s1.heap.objs.size := ⟨_, rfl⟩
  obtain ⟨hp, ehp⟩ : ∃ hp, hp = s1.heap.push (RT.rtObj a ((its.toArray.size : Int) - 1)) := ⟨_, rfl⟩
  rw [← eS0, ← ehp]
  have k0 : ∀ b o, s1.heap.get? b = some o → hp.get? b = some o := fun b o e => by rw [ehp]; exact Heap.get?_push_of_some _ e
  have at0 : hp.get? S0 = some (RT.rtObj a ((its.toArray.size : Int) - 1)) := by rw [ehp, eS0]; exact Heap.get?_push_size _ rfl
  have hsz : hp.objs.size = S0 + 1 := by rw [ehp, eS0]; exact Heap.size_push ..
  have I2 : Inv X pins σ H1 { s1 with heap := hp, toks := s1.toks + 1 + 1 } := I1.kept (t' := s1.toks + 1 + 1) k0
  have src := rtSrc (prog := X.prog) (w := X.w) (it := S0) (t := a) (S := hp.objs.size) (items := its.toArray) (by rw [eS0]; exact Nat.ne_of_lt hlt) (by rw [hsz]; exact Nat.lt_succ_self _) (by rw [hsz]; exact Nat.lt_succ_of_lt (by rw [eS0]; exact hlt)) hn
  have tup0 : ∀ o, IsTup (hp.push o) a its.toArray := fun o => by
    obtain ⟨u, e, r⟩ := hl
    exact ⟨u, Heap.get?_push_of_some _ (k0 _ _ e), r⟩
  refine call_tupleX (s := { s1 with heap := hp, toks := s1.toks + 1 + 1 }) src (I2.ok.hd hc) hn (fun o => ⟨Nat.zero_le _, ⟨_, Heap.get?_push_of_some _ at0, rfl, ?_⟩, tup0 o, fun j v e => by simp at e⟩) ⟨_, at0, rfl⟩ fun h' tk acc cc L => ?_
  · show _ = Data.fields #[Value.ref a, rawInt ((its.toArray.size : Int) - 1 - ((0 : Nat) : Int))]
    rw [show (its.toArray.size : Int) - 1 - ((0 : Nat) : Int) = (its.toArray.size : Int) - 1 by omega]
    rfl
  obtain ⟨l1, ⟨hb, ⟨_, _, _, hv⟩, l2⟩, l3, l4⟩ := L
  have big : hp.objs.size ≤ h'.objs.size := Nat.le_of_lt (Heap.lt_size l4)
  have frS : H1 h'.objs.size = none := I2.hok.fresh big
  obtain ⟨ob, eob⟩ : ∃ ob : Obj, ob = { cls := .type "tuple", data := .seq acc } := ⟨_, rfl⟩
  rw [← eob]
  refine ⟨.ref h'.objs.size, upd H1 h'.objs.size (.frz ob (.tup xs.reverse)), ?_, rfl, q _ ob (by rw [eob]) frS⟩
  refine Inv.turnedMany (ch := [S0]) I2 (fun c o hc e => Heap.get?_push_of_some _ (l3 c o (Nat.ne_of_lt (Heap.lt_size e)) hc e)) (fun c hc => ?_) (fun c u e => ?_) fun c u e => ?_
  · rw [List.mem_singleton.mp hc, eS0]
    exact I1.fpOk (Nat.le_refl _) (I1.hok.fresh (Nat.le_refl _))
  · rw [upd_ne (fun z => by rw [z, frS] at e; cases e)]
    exact e
  · by_cases hcp : c = h'.objs.size
    · subst hcp
      rw [upd_same] at e
      cases e
      refine .inr ⟨big, ?_⟩
      have at2 : (h'.push ob).get? h'.objs.size = some ob := Heap.get?_push_size _ (by rw [eob]; rfl)
      refine ⟨at2, by rw [List.length_reverse]; exact hz, acc.toList, RT.vals_rev rv ⟨l1, hv⟩, ob, at2, by rw [eob], 0, by rw [eob, Array.toArray_toList]⟩
    · rw [upd_ne hcp] at e
      exact .inl e
end DL
end
section
set_option maxRecDepth 100000
set_option maxHeartbeats 4000000
namespace DL
open PySem PySem.Spec PyProof.Rows L2
theorem tuple_mulW1 (l : Addr) (items : Array Value) (n : Nat) (dd : Option Addr) (sl : Array (Option Value)) (u : Tok) :
    Meets (Builtin.«tuple.__mul__» ⟨[.ref l, .int 1 u], []⟩) (fun _ R s => (s.heap.get? l = some { cls := .type "tuple", dict := dd, data := .seq items n, slots := sl }) ∧
      R (.ok (.ret (Value.ref l))) s) :=
  .of_wp fun prog w A R s h => by
    obtain ⟨hp, g, d, tk, os⟩ := s
    obtain ⟨hl, h⟩ := h
    have f1 := AutoSeq1.idx_int
    have c1 : (items.isEmpty || (1 : Int) == 1) = true := by rw [show ((1 : Int) == 1) = true from rfl, Bool.or_true]
    wp_walk using wpAny_loadPart' hl
    exact ⟨_, rfl, h⟩
def rRepX (K : PySem.W.Frag) : R2 := fun x y H Q => ∃ l k xs, x = .ref l ∧ y = .int k ∧ SqT K H l xs ∧ xs ≠ [] ∧ 1 ≤ k ∧ k ≤ 1000 ∧ xs.length ≤ 1000 ∧ (k = 1 → Q (.ref l) H) ∧ (k ≠ 1 → NewT (List.replicate k.toNat xs).flatten H Q)
section
variable {X : Cx}
theorem op_repX : OpR X (binaryOp .Mult) (rRepX X.K) := by
  intro pins s σ H x y v u Q I rx ry h
  obtain ⟨l, k, xs, rfl, rfl, hT, hne, h1, h2, hz, q1, q2⟩ := h
  cases rx
  obtain ⟨t, rfl⟩ := ry
  obtain ⟨its, r, ⟨⟨cls, dd, data, sl⟩, ho, hc, n, hd⟩, hs⟩ := I.tuple hT
  simp only at hc hd
  subst hc hd
  have hle : its.length = xs.length := r.length.symm
  have hn : its ≠ [] := fun e => hne (by
    rw [e] at hle
    exact List.eq_nil_of_length_eq_zero hle.symm)
  have hi : its.toArray.isEmpty = false := by
    cases its with
    | nil => exact absurd rfl hn
    | cons a b => rfl
  have hsz0 : its.toArray.size = xs.length := by rw [List.size_toArray, hle]
  have hm : ((its.toArray.size : Nat) : Int) * k ≤ 1000000 := by
    rw [hsz0]
    have a1 : ((xs.length : Nat) : Int) * k ≤ 1000 * k := Int.mul_le_mul_of_nonneg_right (by omega) (by omega)
    omega
  have flen : (List.replicate k.toNat its).flatten.length ≤ sizeLine := by
    rw [PyProof.Rows.lm_len_rep_flat, hle, sizeLine_eq]
    have a1 : k.toNat * xs.length ≤ 1000 * 1000 := Nat.mul_le_mul (by omega) hz
    omega
  by_cases hk : k = 1
  · subst hk
    refine wpAny_binaryOp_repeat_ref (T := "tuple") (U := "int") (by decide) ⟨_, ho, rfl⟩ (fun s' => typeIs_int s' 1 t) noFill_tuple_mul F.fills_int_mul F.slot_int_rmul repeat_tuple F.slot_int_index.lookup
      (call_meets F.slot_int_rmul (typeIs_int s 1 t) F.entry_int_rmul (F.args_int_rmul_2 _ _) (int_rmul_tuple 1 t l its.toArray n dd sl)
        ⟨ho, rfl, ⟨_, ho, rfl⟩, call_meets F.slot_tuple_mul ⟨_, ho, rfl⟩ F.entry_tuple_mul (F.args_tuple_mul_2 _ _) (tuple_mulW1 l its.toArray n dd sl t) ⟨ho, ?_⟩⟩)
    exact ⟨.ref l, H, I, rfl, q1 rfl⟩
  have c0 : (decide (k < -(2 ^ 63)) || decide (k ≥ 2 ^ 63)) = false := by
    rw [decide_eq_false (by omega), decide_eq_false (by omega)] <;> rfl
  have c1 : (its.toArray.isEmpty || k == 1) = false := by
    rw [hi, Bool.false_or]
    exact beq_eq_false_iff_ne.mpr (by omega)
  have c2 : (decide (k ≤ 0) || its.toArray.isEmpty) = false := by
    rw [hi, Bool.or_false]
    exact decide_eq_false (by omega)
  have c4 : Builtin.Tuple.tupleTooMany (((its.toArray.size : Nat) : Int) * k) = false := by
    unfold Builtin.Tuple.tupleTooMany
    rw [sizeLine_eq]
    exact decide_eq_false (by omega)
  refine wpAny_binaryOp_repeat_ref (T := "tuple") (U := "int") (by decide) ⟨_, ho, rfl⟩ (fun s' => typeIs_int s' k t) noFill_tuple_mul F.fills_int_mul F.slot_int_rmul repeat_tuple F.slot_int_index.lookup
    (call_meets F.slot_int_rmul (typeIs_int s k t) F.entry_int_rmul (F.args_int_rmul_2 _ _) (int_rmul_tuple k t l its.toArray n dd sl)
      ⟨ho, rfl, ⟨_, ho, rfl⟩, call_meets F.slot_tuple_mul ⟨_, ho, rfl⟩ F.entry_tuple_mul (F.args_tuple_mul_2 _ _) (tuple_mulW l its.toArray n dd sl k t c0 c1 c2 (by omega) c4 (by rw [size_rep, List.size_toArray]; exact flen)) ⟨ho, ?_⟩⟩)
  rw [size_rep]
  exact newT_at (tk := s.toks) I (r.rep k.toNat) (by rw [PyProof.Rows.lm_len_rep_flat, sizeLine_eq]; have a1 : k.toNat * xs.length ≤ 1000 * 1000 := Nat.mul_le_mul (by omega) hz; omega) (fun b o e => Heap.get?_push_of_some _ e) (Nat.le_refl _) (Heap.get?_push_size _ rfl) (q2 hk)
end
end DL
end
section
set_option maxRecDepth 100000
set_option maxHeartbeats 4000000
namespace DL
open PySem PySem.Spec PyProof.Rows L2
def MulOk (i j : Int) : Prop := IntMulOk i j
def DivOk (i j : Int) : Prop := Builtin.divisionGoesByPylong i j = false
def wAdd (r s : R) (Q : R → Prop) : Prop :=
  match r, s with
  | .d (.int i), .d (.int j) => Q (.d (.int (i + j)))
  | .d (.str x), .d (.str y) => x.length + y.length ≤ sizeLine ∧ Q (.d (.str (x ++ y)))
  | .d (.tuple xs), .d (.tuple ys) => xs.length + ys.length ≤ sizeLine ∧ Q (.d (.tuple (xs ++ ys)))
  | r, s => match look r, look s with
    | .list xs, .list ys => xs.length + ys.length ≤ sizeLine ∧ Q (.l (xs ++ ys) true)
    | _, _ => False
def wSub (r s : R) (Q : R → Prop) : Prop :=
  match r, s with
  | .d (.int i), .d (.int j) => Q (.d (.int (i - j)))
  | _, _ => False
structure wMulS (i j : Int) (p : Prop) : Prop where
  ok : MulOk i j
  p : p
def wMul (r s : R) (Q : R → Prop) : Prop :=
  match r, s with
  | .d (.int i), .d (.int j) => wMulS i j (Q (.d (.int (i * j))))
  | .d (.str x), .d (.int k) => PySem.MulOk x k ∧ Q (.d (.str (Txt.mul x k)))
  | r, .d (.int k) => (match look r with
    | .list xs => -(2 ^ 63) ≤ k ∧ k < 2 ^ 63 ∧ xs.length * k.toNat ≤ sizeLine ∧ Q (.l (List.replicate k.toNat xs).flatten true)
    | .tuple ds => 1 ≤ k ∧ k ≤ 1000 ∧ ds ≠ [] ∧ ds.length ≤ 1000 ∧ Q (.d (.tuple (List.replicate k.toNat ds).flatten))
    | _ => False)
  | _, _ => False
def wDiv (r s : R) (Q : R → Prop) : Prop :=
  match r, s with
  | .d (.int i), .d (.int j) => j ≠ 0 ∧ DivOk i j ∧ ∀ q, q = i.fdiv j → (0 < j → q = i / j) → Q (.d (.int q))
  | _, _ => False
def wMod (r s : R) (Q : R → Prop) : Prop :=
  match r, s with
  | .d (.int i), .d (.int j) => j ≠ 0 ∧ ∀ q, q = i.fmod j → (0 < j → q = i % j) → Q (.d (.int q))
  | _, _ => False
def wPow (r s : R) (Q : R → Prop) : Prop :=
  match r, s with
  | .d (.int i), .d (.int j) => CPow i j ∧ Q (.d (.int (i ^ j.toNat)))
  | _, _ => False
def wBin (op : Operator) (r s : R) (Q : R → Prop) : Prop :=
  match op with
  | .Add => wAdd r s Q
  | .Sub => wSub r s Q
  | .Mult => wMul r s Q
  | .FloorDiv => wDiv r s Q
  | .Mod => wMod r s Q
  | .Pow => wPow r s Q
  | _ => False
def wNeg (r : R) (Q : R → Prop) : Prop :=
  match r with
  | .d (.int i) => Q (.d (.int (-i)))
  | _ => False
def wTru (r : R) (Q : Bool → Prop) : Prop :=
  match r with
  | .d (.bool b) => Q b
  | _ => False
def isNone (d : D) : Bool := match d with
  | .none => true
  | _ => false
def Flat (x y : D) : Prop := min x.depth y.depth ≤ 100
structure wEq0 (x y : D) (Q : R → Prop) : Prop where
  flat : Flat x y
  q : Q (.d (.bool (PyData.eqv x y)))
structure wNe0 (x y : D) (Q : R → Prop) : Prop where
  flat : Flat x y
  q : Q (.d (.bool (!PyData.eqv x y)))
def wEqD (x y : D) (Q : R → Prop) : Prop := match x, y with
  | .int i, .int j => Q (.d (.bool (decide (i = j))))
  | .str i, .str j => Q (.d (.bool (decide (i = j))))
  | .bool i, .bool j => Q (.d (.bool (decide (i = j))))
  | x, y => wEq0 x y Q
def wNeD (x y : D) (Q : R → Prop) : Prop := match x, y with
  | .int i, .int j => Q (.d (.bool (!decide (i = j))))
  | .str i, .str j => Q (.d (.bool (!decide (i = j))))
  | .bool i, .bool j => Q (.d (.bool (!decide (i = j))))
  | x, y => wNe0 x y Q
theorem eqv_i (i j : Int) : PyData.eqv (.int i) (.int j) = decide (i = j) := by unfold PyData.eqv; rw [Bool.eq_iff_iff]; simp
theorem eqv_s (i j : Str) : PyData.eqv (.str i) (.str j) = decide (i = j) := by unfold PyData.eqv; rw [Bool.eq_iff_iff]; simp
theorem eqv_b (i j : Bool) : PyData.eqv (.bool i) (.bool j) = decide (i = j) := by unfold PyData.eqv; rw [Bool.eq_iff_iff]; cases i <;> cases j <;> simp
theorem wEqD_ok {x y : D} {Q : R → Prop} (h : wEqD x y Q) : wEq0 x y Q := by
  unfold wEqD at h
  split at h
  · exact ⟨Nat.zero_le _, by rw [eqv_i]; exact h⟩
  · exact ⟨Nat.zero_le _, by rw [eqv_s]; exact h⟩
  · exact ⟨Nat.zero_le _, by rw [eqv_b]; exact h⟩
  · exact h
theorem wNeD_ok {x y : D} {Q : R → Prop} (h : wNeD x y Q) : wNe0 x y Q := by
  unfold wNeD at h
  split at h
  · exact ⟨Nat.zero_le _, by rw [eqv_i]; exact h⟩
  · exact ⟨Nat.zero_le _, by rw [eqv_s]; exact h⟩
  · exact ⟨Nat.zero_le _, by rw [eqv_b]; exact h⟩
  · exact h
def wEq (r s : R) (Q : R → Prop) : Prop := wEqD (look r) (look s) Q
def wNe (r s : R) (Q : R → Prop) : Prop := wNeD (look r) (look s) Q
def wOrd (f : Int → Int → Bool) (g : D → D → Bool) (r s : R) (Q : R → Prop) : Prop :=
  match r, s with
  | .d (.int i), .d (.int j) => Q (.d (.bool (f i j)))
  | .d (.tuple xs), .d (.tuple ys) => PySem.W.alike (.tuple xs) (.tuple ys) = true ∧ Flat (.tuple xs) (.tuple ys) ∧ Q (.d (.bool (g (.tuple xs) (.tuple ys))))
  | _, _ => False
def sIn (x y : Str) : Bool := !(Builtin.Str.occurrences y x 0 y.length 1).isEmpty
def wIn (neg : Bool) (r s : R) (Q : R → Prop) : Prop :=
  match look s with
  | .list ds => min (PyData.depthAll ds) (look r).depth ≤ 100 ∧ Q (.d (.bool (neg != ds.any fun z => PyData.eqv z (look r))))
  | .tuple ds => min (PyData.depthAll ds) (look r).depth ≤ 100 ∧ Q (.d (.bool (neg != ds.any fun z => PyData.eqv z (look r))))
  | .str y => (match look r with
    | .str x => Q (.d (.bool (neg != sIn x y)))
    | _ => False)
  | _ => False
def wCmp (op : CmpOp) (r s : R) (Q : R → Prop) : Prop :=
  match op with
  | .Eq => wEq r s Q
  | .NotEq => wNe r s Q
  | .Lt => wOrd (fun i j => decide (i < j)) (fun x y => PySem.W.dataLt x y) r s Q
  | .LtE => wOrd (fun i j => decide (i ≤ j)) (fun x y => !PySem.W.dataLt y x) r s Q
  | .Gt => wOrd (fun i j => decide (j < i)) (fun x y => PySem.W.dataLt y x) r s Q
  | .GtE => wOrd (fun i j => decide (j ≤ i)) (fun x y => !PySem.W.dataLt x y) r s Q
  | .In => wIn false r s Q
  | .NotIn => wIn true r s Q
  | _ => False
def wIx (r s : R) (Q : R → Prop) : Prop :=
  match look r, s with
  | .list ds, .d (.int i) => (match atI ds i with
    | some d => Q (.d d)
    | none => False)
  | .tuple ds, .d (.int i) => (match atI ds i with
    | some d => Q (.d d)
    | none => False)
  | .str x, .d (.int i) => x.length ≤ sizeLine ∧ (match atI x.cps.toList i with
    | some c => Q (.d (.str ⟨#[c]⟩))
    | none => False)
  | _, _ => False
def cutD (ds : List D) (lo hi : Option Int) : List D := (ds.drop (HT.sIx ds.length 0 lo)).take (HT.sIx ds.length ds.length hi - HT.sIx ds.length 0 lo)
def wSl (r : R) (lo hi : Option Int) (Q : R → Prop) : Prop :=
  match look r with
  | .list ds => Q (.l (cutD ds lo hi) true)
  | .tuple ds => Q (.d (.tuple (cutD ds lo hi)))
  | .str z => z.length ≤ sizeLine ∧ Q (.d (.str (cutS z lo hi)))
  | _ => False
def frzP (r : R) (k : D → Prop) : Prop := match frz r with
  | some x => k x
  | none => False
def wArgs : List R → (List D → Prop) → Prop
  | [], k => k []
  | r :: rs, k => frzP r fun x => wArgs rs fun xs => k (x :: xs)
section
variable {X : Cx} {K : PySem.W.Frag} {F H B : Hp}
def rB (K : PySem.W.Frag) (w : R → R → (R → Prop) → Prop) : R2 := fun x y H Q => ∃ (F B : Hp) (r s : R) (P : R → Prop), Same F H ∧ RV K B F H r x ∧ RV K B F H s y ∧ w r s P ∧
  ∀ t v F' H', P t → Step F H F' H' → Same F' H' → RV K H F' H' t v → Q v H'
def rU1 (K : PySem.W.Frag) (w : R → (R → Prop) → Prop) : V → Hp → VK → Prop := fun x H Q => ∃ (F B : Hp) (r : R) (P : R → Prop), Same F H ∧ RV K B F H r x ∧ w r P ∧
  ∀ t v F' H', P t → Step F H F' H' → Same F' H' → RV K H F' H' t v → Q v H'
theorem rv_list {r : R} {x : V} {ds : List D} (fh : Same F H) (h : RV K B F H r x) (e : look r = .list ds) : ∃ a xs, x = .ref a ∧ Rd H a (.lst xs) ∧ DqAll K F xs ds := by
  cases r with
  | d y =>
    cases e
    cases h with
    | lst h1 h2 => exact ⟨_, _, rfl, Rd.mono fh h1, h2⟩
  | l es fr =>
    cases e
    obtain ⟨a, xs, h1, h2, h3, h4, h5⟩ := h
    exact ⟨a, xs, h1, .inl h2, h3⟩
theorem rv_tupN {r : R} {x : V} {ds : List D} (h : RV K B F H r x) (e : look r = .tuple ds) : ∃ a xs, x = .ref a ∧ SqT K F a xs ∧ (hd1 ds = true → Nd K F a) ∧ DqAll K F xs ds := by
  cases r with
  | d y =>
    cases e
    cases h with
    | tup h1 hn h2 => exact ⟨_, _, rfl, h1, hn, h2⟩
  | l es fr => cases e
theorem rv_tup {r : R} {x : V} {ds : List D} (h : RV K B F H r x) (e : look r = .tuple ds) : ∃ a xs, x = .ref a ∧ SqT K F a xs ∧ DqAll K F xs ds :=
  let ⟨a, xs, h1, h2, _, h3⟩ := rv_tupN h e
  ⟨a, xs, h1, h2, h3⟩
theorem rv_str {r : R} {x : V} {z : Str} (h : RV K B F H r x) (e : look r = .str z) : x = .str z := by
  cases r with
  | d y =>
    cases e
    cases h
    rfl
  | l es fr => cases e
theorem rv_int {x : V} {i : Int} (h : RV K B F H (.d (.int i)) x) : x = .int i := by
  cases (show Dq K F x (.int i) from h)
  rfl
theorem rv_bool {x : V} {i : Bool} (h : RV K B F H (.d (.bool i)) x) : x = .bl i := by
  cases (show Dq K F x (.bool i) from h)
  rfl
theorem Inv.rlist {pins : List (Addr × Obj)} {σ : L2.St} {s : Shared} {a : Addr} {xs : List V} (I : Inv X pins σ H s) (h : Rd H a (.lst xs)) :
    xs.length ≤ sizeLine ∧ ∃ (its : List Value) (n : Nat), Vals xs its ∧ s.heap.get? a = some { cls := .type "list", data := .seq its.toArray n } := by
  obtain ⟨z, its, n, r, e⟩ := h.ok I.hok
  exact ⟨z, its, n, r, e⟩
theorem rv_new {p : Addr} {xs : List V} {ds : List D} (fh : Same F H) (hp : H p = none) (h : DqAll K F xs ds) : RV K H F (upd H p (.lst xs)) (.l ds true) (.ref p) :=
  ⟨p, xs, rfl, upd_same, h, Same.free fh hp, fun _ => hp⟩
theorem op_addD : OpR X (binaryOp .Add) (rB X.K wAdd) := by
  intro pins s σ H x y v u Q I rx ry h
  obtain ⟨F, B, r, t, P, fh, vr, vt, w, post⟩ := h
  unfold wAdd at w
  split at w
  · have e1 := rv_int vr
    have e2 := rv_int vt
    subst e1 e2
    exact op_add pins s σ H _ _ v u Q I rx ry ⟨_, _, rfl, rfl, post _ _ F H w Step.refl fh (Dq.int _)⟩
  · have e1 := rv_str vr rfl
    have e2 := rv_str vt rfl
    subst e1 e2
    exact op_add_str pins s σ H _ _ v u Q I rx ry ⟨_, _, rfl, rfl, w.1, post _ _ F H w.2 Step.refl fh (Dq.str _)⟩
  · rename_i ds es
    obtain ⟨a, xs, e1, h1, hn, h2⟩ := rv_tupN vr rfl
    obtain ⟨b, ys, e2, g1, gn, g2⟩ := rv_tupN vt rfl
    subst e1 e2
    have l1 := dpa_len h2
    have l2 := dpa_len g2
    refine op_catX pins s σ H _ _ v u Q I rx ry ⟨a, b, xs, ys, rfl, rfl, SqT.mono fh h1, SqT.mono fh g1, by omega, fun z => ?_, fun z z2 => ?_, fun z z2 p o ho hp => ?_⟩
    · subst z
      cases h2
      exact post _ _ F H w.2 Step.refl fh (Dq.tup g1 gn g2)
    · subst z2
      cases g2
      refine post _ _ F H w.2 Step.refl fh ?_
      rw [List.append_nil]
      exact Dq.tup h1 hn h2
    · exact post _ _ _ _ w.2 (Step.new fh hp) (same_new fh) (dq_new fh hp ho (dpa_app h2 g2))
  · split at w
    · rename_i ds es e1 e2
      obtain ⟨a, xs, e1, h1, h2⟩ := rv_list fh vr e1
      obtain ⟨b, ys, e2, g1, g2⟩ := rv_list fh vt e2
      subst e1 e2
      have l1 := dpa_len h2
      have l2 := dpa_len g2
      cases rx
      cases ry
      obtain ⟨z, its, n, r, e⟩ := Inv.rlist I h1
      obtain ⟨z2, its2, n2, r2, e2⟩ := Inv.rlist I g1
      have k1 := r.length
      have k2 := r2.length
      refine PySem.P.add_list e e2 ?_ (by rw [List.size_toArray, List.size_toArray]; omega)
      have ea : its.toArray ++ its2.toArray = (its ++ its2).toArray := by simp
      rw [ea]
      refine ⟨.ref _, _, I.lnew (t' := s.toks) (r.append r2) (by rw [List.length_append]; omega), rfl, ?_⟩
      exact post _ _ F _ w.2 (Step.own fh I.fresh) (same_own fh I.fresh) (rv_new fh I.fresh (dpa_app h2 g2))
    · exact w.elim
theorem op_subD : OpR X (binaryOp .Sub) (rB X.K wSub) := by
  intro pins s σ H x y v u Q I rx ry h
  obtain ⟨F, B, r, t, P, fh, vr, vt, w, post⟩ := h
  unfold wSub at w
  split at w
  · have e1 := rv_int vr
    have e2 := rv_int vt
    subst e1 e2
    exact op_sub pins s σ H _ _ v u Q I rx ry ⟨_, _, rfl, rfl, post _ _ F H w Step.refl fh (Dq.int _)⟩
  · exact w.elim
theorem op_mulD : OpR X (binaryOp .Mult) (rB X.K wMul) := by
  intro pins s σ H x y v u Q I rx ry h
  obtain ⟨F, B, r, t, P, fh, vr, vt, w, post⟩ := h
  unfold wMul at w
  split at w
  · have e1 := rv_int vr
    have e2 := rv_int vt
    subst e1 e2
    obtain ⟨t1, rfl⟩ := rx
    obtain ⟨t2, rfl⟩ := ry
    exact mul_int ⟨.int _, H, I.tok _, ⟨_, rfl⟩, post _ _ F H w.2 Step.refl fh (Dq.int _)⟩ w.1
  · have e1 := rv_str vr rfl
    have e2 := rv_int vt
    subst e1 e2
    obtain ⟨t1, rfl⟩ := rx
    obtain ⟨t2, rfl⟩ := ry
    exact SB.mul w.1 fun t' k => ⟨.str _, H, I.tok _, ⟨_, rfl⟩, post _ _ F H w.2 Step.refl fh (Dq.str _)⟩
  · rename_i k hne hne2
    split at w
    · rename_i ds e1
      obtain ⟨a, xs, e1, h1, h2⟩ := rv_list fh vr e1
      have e2 := rv_int vt
      subst e1 e2
      obtain ⟨w1, w2, w3, w4⟩ := w
      have l1 := dpa_len h2
      cases rx
      obtain ⟨t2, rfl⟩ := ry
      obtain ⟨z, its, n, r, e⟩ := Inv.rlist I h1
      have hl := r.length
      have hlen : its.toArray.size * k.toNat ≤ sizeLine := by rw [List.size_toArray, ← hl, l1]; exact w3
      have hcap : ¬ its.toArray.size * k.toNat > (2 ^ 63 - 1) / 8 := by
        have : (sizeLine : Nat) ≤ (2 ^ 63 - 1) / 8 := by decide
        omega
      have hfit : ¬ (!Builtin.List.listFitsIndex k) = true := by
        rw [fitsIndex_both w1 w2]
        exact Bool.false_ne_true
      have hlong : ¬ Builtin.List.listTooLong (its.toArray.size * k.toNat) = true := by
        rw [notLongL hlen]
        exact Bool.false_ne_true
      have hnew : List.foldl (fun x1 x2 => x1 ++ x2) #[] (List.replicate (if its.toArray.isEmpty = true then 0 else k.toNat) its.toArray) = (List.replicate k.toNat its).flatten.toArray := by
        have f0 : ∀ m : Nat, List.foldl (fun x1 x2 => x1 ++ x2) #[] (List.replicate m its.toArray) = (List.replicate m its).flatten.toArray := fun m => by
          have := foldl_rep its m []
          rw [List.nil_append] at this
          exact this
        rw [f0]
        cases its with
        | nil => simp
        | cons a r' => rw [if_neg (by simp)]
      have dr : ∀ m : Nat, DqAll X.K F (List.replicate m xs).flatten (List.replicate m ds).flatten := fun m => by
        induction m with
        | zero => exact .nil
        | succ m ih =>
          rw [List.replicate_succ, List.replicate_succ, List.flatten_cons, List.flatten_cons]
          exact dpa_app h2 ih
      refine wpAny_binaryOp_repeat_ref (T := "list") (U := "int") (by decide) ⟨_, e, rfl⟩ (fun s' => typeIs_int s' k t2) noFill_list_mul PySem.F.fills_int_mul PySem.F.slot_int_rmul repeat_list PySem.F.slot_int_index.lookup
        (call_meets PySem.F.slot_int_rmul (typeIs_int s k t2) PySem.F.entry_int_rmul (PySem.F.args_int_rmul_2 _ _) (int___rmul___int_list k t2 a its.toArray n)
          ⟨e, rfl, ⟨_, e, rfl⟩, call_meets PySem.F.slot_list_mul ⟨_, e, rfl⟩ PySem.F.entry_list_mul (PySem.F.args_list_mul_2 _ _) (AutoListH.list___mul___list_int_3 a its.toArray n k t2 hfit hcap hlong) ⟨e, ?_⟩⟩)
      rw [hnew]
      refine ⟨.ref _, _, I.lnew (t' := s.toks) (r.rep k.toNat) (by rw [PyProof.Rows.lm_len_rep_flat, Nat.mul_comm, l1]; exact w3), rfl, ?_⟩
      exact post _ _ F _ w4 (Step.own fh I.fresh) (same_own fh I.fresh) (rv_new fh I.fresh (dr _))
    · rename_i ds e1
      obtain ⟨a, xs, e1, h1, hn, h2⟩ := rv_tupN vr e1
      have e2 := rv_int vt
      subst e1 e2
      obtain ⟨w1, w2, w3, w4, w5⟩ := w
      have l1 := dpa_len h2
      have dr : ∀ m : Nat, DqAll X.K F (List.replicate m xs).flatten (List.replicate m ds).flatten := fun m => by
        induction m with
        | zero => exact .nil
        | succ m ih =>
          rw [List.replicate_succ, List.replicate_succ, List.flatten_cons, List.flatten_cons]
          exact dpa_app h2 ih
      refine op_repX pins s σ H _ _ v u Q I rx ry ⟨a, k, xs, rfl, rfl, SqT.mono fh h1, fun z => w3 (by rw [z] at l1; exact List.eq_nil_of_length_eq_zero l1.symm), w1, w2, by omega, fun z => ?_, fun z p o ho hp => ?_⟩
      · subst z
        refine post _ _ F H w5 Step.refl fh ?_
        rw [show (List.replicate (1 : Int).toNat ds).flatten = ds from by simp]
        exact Dq.tup h1 hn h2
      · exact post _ _ _ _ w5 (Step.new fh hp) (same_new fh) (dq_new fh hp ho (dr _))
    · exact w.elim
  · exact w.elim
theorem op_divD : OpR X (binaryOp .FloorDiv) (rB X.K wDiv) := by
  intro pins s σ H x y v u Q I rx ry h
  obtain ⟨F, B, r, t, P, fh, vr, vt, w, post⟩ := h
  unfold wDiv at w
  split at w
  · have e1 := rv_int vr
    have e2 := rv_int vt
    subst e1 e2
    obtain ⟨t1, rfl⟩ := rx
    obtain ⟨t2, rfl⟩ := ry
    exact floordiv_int w.1 ⟨.int _, H, I.tok _, ⟨_, rfl⟩, post _ _ F H (w.2.2 _ rfl fun h => Int.fdiv_eq_ediv_of_nonneg _ (Int.le_of_lt h)) Step.refl fh (Dq.int _)⟩ (.inl w.2.1)
  · exact w.elim
theorem op_modD : OpR X (binaryOp .Mod) (rB X.K wMod) := by
  intro pins s σ H x y v u Q I rx ry h
  obtain ⟨F, B, r, t, P, fh, vr, vt, w, post⟩ := h
  unfold wMod at w
  split at w
  · have e1 := rv_int vr
    have e2 := rv_int vt
    subst e1 e2
    exact op_modN pins s σ H _ _ v u Q I rx ry ⟨_, _, rfl, rfl, w.1, post _ _ F H (w.2 _ rfl fun h => Int.fmod_eq_emod_of_nonneg _ (Int.le_of_lt h)) Step.refl fh (Dq.int _)⟩
  · exact w.elim
theorem op_powD : OpR X (binaryOp .Pow) (rB X.K wPow) := by
  intro pins s σ H x y v u Q I rx ry h
  obtain ⟨F, B, r, t, P, fh, vr, vt, w, post⟩ := h
  unfold wPow at w
  split at w
  · have e1 := rv_int vr
    have e2 := rv_int vt
    subst e1 e2
    exact op_pow pins s σ H _ _ v u Q I rx ry ⟨_, _, rfl, rfl, w.1, post _ _ F H w.2 Step.refl fh (Dq.int _)⟩
  · exact w.elim
theorem op_binD (op : Operator) : OpR X (binaryOp op) (rB X.K (wBin op)) := by
  cases op with
  | Add => exact op_addD
  | Sub => exact op_subD
  | Mult => exact op_mulD
  | FloorDiv => exact op_divD
  | Mod => exact op_modD
  | Pow => exact op_powD
  | _ => intro pins s σ H x y v u Q I rx ry h; obtain ⟨F, B, r, t, P, fh, vr, vt, w, post⟩ := h; exact False.elim w
theorem un_negD : UnR X (unaryOp .USub) (rU1 X.K wNeg) := by
  intro pins s σ H x v Q I rx h
  obtain ⟨F, B, r, P, fh, vr, w, post⟩ := h
  unfold wNeg at w
  split at w
  · have e1 := rv_int vr
    subst e1
    exact un_neg pins s σ H _ v Q I rx ⟨_, rfl, post _ _ F H w Step.refl fh (Dq.int _)⟩
  · exact w.elim
theorem rv_reads {pins : List (Addr × Obj)} {σ : L2.St} {s : Shared} {r : R} {x : V} {v : Value} (I : Inv X pins σ H s) (fh : Same F H) (h : RV X.K B F H r x) (rx : RelV x v) : (∃ as, Reads s.heap v (look r) as) ∧ (look r).plain = true := by
  have q := Dq.dp _ _ (h.look fh)
  exact ⟨Dp.reads I _ x v q.1 rx, q.2⟩
theorem op_ordD {op : CmpOp} {f : Int → Int → Bool} {g : D → D → Bool} (ho : OpR X (compareOp op) (rI0 fun i j => .bl (f i j)))
    (hd : ∀ (s : Shared) (a b : Value) (da db : D) (as bs : List Addr) (Q : Value → Shared → Prop), Reads s.heap a da as → Reads s.heap b db bs → PySem.W.alike da db = true → da ≠ .none → X.A.units + min da.depth db.depth < cLine → Q (.bool (g da db)) s → wpAny (model X.prog X.w) X.A (compareOp op a b) Q X.xe s)
    (hu : X.A.units + 200 < cLine) : OpR X (compareOp op) (rB X.K (wOrd f g)) := by
  intro pins s σ H x y v u Q I rx ry h
  obtain ⟨F, B, r, t, P, fh, vr, vt, w, post⟩ := h
  unfold wOrd at w
  split at w
  · have e1 := rv_int vr
    have e2 := rv_int vt
    subst e1 e2
    exact ho pins s σ H _ _ v u Q I rx ry ⟨_, _, rfl, rfl, post _ _ F H w Step.refl fh (Dq.bl _)⟩
  · obtain ⟨w1, w2, w3⟩ := w
    obtain ⟨⟨as, ra⟩, pa⟩ := rv_reads I fh vr rx
    obtain ⟨⟨bs, rb⟩, pb⟩ := rv_reads I fh vt ry
    unfold Flat at w2
    exact hd s v u _ _ as bs _ ra rb w1 (fun z => nomatch z) (by show X.A.units + min (PyData.depth (.tuple _)) (PyData.depth (.tuple _)) < cLine; omega) ⟨.bl _, H, I, rfl, post _ _ F H w3 Step.refl fh (Dq.bl _)⟩
  · exact w.elim
theorem op_inD' (neg : Bool) (hu : X.A.units + 200 < cLine) : OpR X (compareOp (if neg then .NotIn else .In)) (rB X.K (wIn neg)) := by
  intro pins s σ H x y v u Q I rx ry h
  obtain ⟨F, B, r, t, P, fh, vr, vt, w, post⟩ := h
  obtain ⟨⟨as, ra⟩, pa⟩ := rv_reads I fh vr rx
  obtain ⟨⟨bs, rb⟩, pb⟩ := rv_reads I fh vt ry
  unfold wIn at w
  split at w
  · rename_i ds e
    rw [e] at rb pb
    have pds : PyData.plainAll ds = true := by simpa [PyData.plain] using pb
    have hu2 : X.A.units + 1 + min (PyData.depthAll ds) (look r).depth < cLine := by have := w.1; omega
    have fin : ∀ b, b = (neg != ds.any fun z => PyData.eqv z (look r)) → EP X pins σ Q (.bool b) s := fun b hb => ⟨.bl b, H, I, rfl, post _ _ F H w.2 Step.refl fh (hb ▸ Dq.bl _)⟩
    cases neg with
    | true => exact SeqAt.notIn_list_data rb ra pds pa hu2 (fin _ (by simp))
    | false => exact SeqAt.in_list_data rb ra pds pa hu2 (fin _ (by simp))
  · rename_i ds e
    rw [e] at rb pb
    have pds : PyData.plainAll ds = true := by simpa [PyData.plain] using pb
    have hu2 : X.A.units + 1 + min (PyData.depthAll ds) (look r).depth < cLine := by have := w.1; omega
    have fin : ∀ b, b = (neg != ds.any fun z => PyData.eqv z (look r)) → EP X pins σ Q (.bool b) s := fun b hb => ⟨.bl b, H, I, rfl, post _ _ F H w.2 Step.refl fh (hb ▸ Dq.bl _)⟩
    cases neg with
    | true => exact SeqAt.notIn_tuple_data rb ra pds pa hu2 (fin _ (by simp))
    | false => exact SeqAt.in_tuple_data rb ra pds pa hu2 (fin _ (by simp))
  · rename_i z e
    split at w
    · rename_i z2 e2
      have e3 := rv_str vr e2
      have e4 := rv_str vt e
      subst e3 e4
      cases neg with
      | true => exact op_notIn_str pins s σ H _ _ v u Q I rx ry ⟨_, _, rfl, rfl, post _ _ F H w Step.refl fh (by show Dq _ _ (V.bl _) (.bool (true != sIn _ _)); unfold sIn; rw [Bool.true_bne]; exact Dq.bl _)⟩
      | false => exact op_in_str pins s σ H _ _ v u Q I rx ry ⟨_, _, rfl, rfl, post _ _ F H w Step.refl fh (by show Dq _ _ (V.bl _) (.bool (false != sIn _ _)); unfold sIn; rw [Bool.false_bne]; exact Dq.bl _)⟩
    · exact w.elim
  · exact w.elim
theorem op_cmpD (op : CmpOp) (hu : X.A.units + 200 < cLine) : OpR X (compareOp op) (rB X.K (wCmp op)) := by
  cases op with
  | Eq =>
    intro pins s σ H x y v u Q I rx ry h
    obtain ⟨F, B, r, t, P, fh, vr, vt, w, post⟩ := h
    obtain ⟨⟨as, ra⟩, pa⟩ := rv_reads I fh vr rx
    obtain ⟨⟨bs, rb⟩, pb⟩ := rv_reads I fh vt ry
    have w := wEqD_ok w
    have w1 : min (look r).depth (look t).depth ≤ 100 := w.1
    exact SeqAt.eq_plain ra rb pa pb (by omega) ⟨.bl _, H, I, rfl, post _ _ F H w.2 Step.refl fh (Dq.bl _)⟩
  | NotEq =>
    intro pins s σ H x y v u Q I rx ry h
    obtain ⟨F, B, r, t, P, fh, vr, vt, w, post⟩ := h
    obtain ⟨⟨as, ra⟩, pa⟩ := rv_reads I fh vr rx
    obtain ⟨⟨bs, rb⟩, pb⟩ := rv_reads I fh vt ry
    have w := wNeD_ok w
    have w1 : min (look r).depth (look t).depth ≤ 100 := w.1
    exact SeqAt.ne_plain ra rb pa pb (by omega) ⟨.bl _, H, I, rfl, post _ _ F H w.2 Step.refl fh (Dq.bl _)⟩
  | Lt => exact op_ordD op_lt (fun s a b da db as bs Q ra rb h hn hu q => PySem.W.lt_data ra rb h hn hu q) hu
  | LtE => exact op_ordD op_le (fun s a b da db as bs Q ra rb h hn hu q => PySem.W.le_data ra rb h hn hu q) hu
  | Gt => exact op_ordD op_gt (fun s a b da db as bs Q ra rb h hn hu q => PySem.W.gt_data ra rb h hn hu q) hu
  | GtE => exact op_ordD op_ge (fun s a b da db as bs Q ra rb h hn hu q => PySem.W.ge_data ra rb h hn hu q) hu
  | In => exact op_inD' false hu
  | NotIn => exact op_inD' true hu
  | _ => intro pins s σ H x y v u Q I rx ry h; obtain ⟨F, B, r, t, P, fh, vr, vt, w, post⟩ := h; exact False.elim w
theorem atI_map {ds : List D} {xs : List V} {i : Int} {d : D} (h : DqAll K F xs ds) (e : atI ds i = some d) : ∃ v, atI xs i = some v ∧ Dq K F v d := by
  unfold atI at e ⊢
  rw [dpa_len h]
  cases q : ixN ds.length i with
  | none => rw [q] at e; cases e
  | some j =>
    rw [q] at e
    obtain ⟨v, h1, h2⟩ := dpa_get h e
    exact ⟨v, h1, h2⟩
theorem ix_D : IxR X (rB X.K wIx) := by
  intro value slice pins s σ H x y v u Q I rx ry h hs
  obtain ⟨F, B, r, t, P, fh, vr, vt, w, post⟩ := h
  unfold wIx at w
  split at w
  · rename_i ds i e1
    obtain ⟨a, xs, e1, h1, h2⟩ := rv_list fh vr e1
    have e2 := rv_int vt
    subst e1 e2
    split at w
    · rename_i d e3
      obtain ⟨z, g1, g2⟩ := atI_map h2 e3
      exact ix_list value slice pins s σ H _ _ v u Q I rx ry ⟨a, xs, i, z, rfl, rfl, .inl h1, g1, post _ _ F H w Step.refl fh g2⟩ hs
    · exact w.elim
  · rename_i ds i e1
    obtain ⟨a, xs, e1, h1, h2⟩ := rv_tup vr e1
    have e2 := rv_int vt
    subst e1 e2
    split at w
    · rename_i d e3
      obtain ⟨z, g1, g2⟩ := atI_map h2 e3
      exact ix_tup value slice pins s σ H _ _ v u Q I rx ry ⟨a, xs, i, z, rfl, rfl, SqT.mono fh h1, g1, post _ _ F H w Step.refl fh g2⟩ hs
    · exact w.elim
  · rename_i z i e1
    have e1 := rv_str vr e1
    have e2 := rv_int vt
    subst e1 e2
    obtain ⟨w1, w⟩ := w
    split at w
    · rename_i c e3
      exact ix_str value slice pins s σ H _ _ v u Q I rx ry ⟨z, i, c, rfl, rfl, w1, e3, post _ _ F H w Step.refl fh (Dq.str _)⟩ hs
    · exact w.elim
  · exact w.elim
def rSD (K : PySem.W.Frag) : V → Option Int → Option Int → Hp → VK → Prop := fun x lo hi H Q => ∃ (F B : Hp) (r : R) (P : R → Prop), Same F H ∧ RV K B F H r x ∧ wSl r lo hi P ∧
  ∀ t v F' H', P t → Step F H F' H' → Same F' H' → RV K H F' H' t v → Q v H'
theorem dpa_cut {ds : List D} {xs : List V} (h : DqAll K F xs ds) (lo hi : Option Int) : DqAll K F (cutV xs lo hi) (cutD ds lo hi) := by
  unfold cutV cutD
  rw [dpa_len h]
  exact dpa_take _ (dpa_drop _ h)
theorem cut_all {α : Type} (xs : List α) (lo hi : Option Int) (h : HT.sIx xs.length 0 lo = 0 ∧ HT.sIx xs.length xs.length hi = xs.length) : (xs.drop (HT.sIx xs.length 0 lo)).take (HT.sIx xs.length xs.length hi - HT.sIx xs.length 0 lo) = xs := by
  rw [h.1, h.2]
  simp
theorem sl_D : SlR X (rSD X.K) := by
  intro pins s σ H x v vl vu lo hi sl Q I rx hs pl pu h
  obtain ⟨F, B, r, P, fh, vr, w, post⟩ := h
  unfold wSl at w
  split at w
  · rename_i ds e1
    obtain ⟨a, xs, e1, h1, h2⟩ := rv_list fh vr e1
    subst e1
    exact sl_list pins s σ H _ v vl vu lo hi sl Q I rx hs pl pu ⟨a, xs, rfl, .inl h1, fun p hp => post _ _ F _ w (Step.own fh hp) (same_own fh hp) (rv_new fh hp (dpa_cut h2 lo hi))⟩
  · rename_i ds e1
    obtain ⟨a, xs, e1, h1, hn, h2⟩ := rv_tupN vr e1
    subst e1
    refine sl_tupX pins s σ H _ v vl vu lo hi sl Q I rx hs pl pu ⟨a, xs, rfl, SqT.mono fh h1, fun z => ?_, fun z p o ho hp => ?_⟩
    · refine post _ _ F H w Step.refl fh ?_
      have e : cutD ds lo hi = ds := cut_all ds lo hi (by rw [← dpa_len h2]; exact z)
      rw [e]
      exact Dq.tup h1 hn h2
    · exact post _ _ _ _ w (Step.new fh hp) (same_new fh) (dq_new fh hp ho (dpa_cut h2 lo hi))
  · rename_i z e1
    have e2 := rv_str vr e1
    subst e2
    exact sl_str pins s σ H _ v vl vu lo hi sl Q I rx hs pl pu ⟨z, rfl, w.1, post _ _ F H w.2 Step.refl fh (Dq.str _)⟩
  · exact w.elim
end
end DL
end
section
set_option maxRecDepth 100000
set_option maxHeartbeats 4000000
namespace DL
open PySem PySem.Spec PyProof.Rows L2
def r5 : Nat → Nat
  | 0 => 0
  | n + 1 => 5 * r5 n + 1
theorem r5_pow : ∀ n, 5 ^ n = 4 * r5 n + 1
  | 0 => rfl
  | n + 1 => by rw [Nat.pow_succ, r5_pow n]; show _ = 4 * (5 * r5 n + 1) + 1; omega
theorem r5_add (a : Nat) : ∀ b, r5 (a + b) = r5 a * 5 ^ b + r5 b
  | 0 => by simp [r5]
  | b + 1 => by
    show 5 * r5 (a + b) + 1 = r5 a * 5 ^ (b + 1) + (5 * r5 b + 1)
    rw [r5_add a b, Nat.pow_succ]
    grind
theorem r5_dbl (n : Nat) : r5 (n + n) = 2 * (r5 n * (2 * r5 n + 1)) := by
  rw [r5_add, r5_pow]
  grind
theorem r5_odd : ∀ n, r5 n % 2 = n % 2
  | 0 => rfl
  | n + 1 => by
    have := r5_odd n
    show (5 * r5 n + 1) % 2 = _
    omega
theorem r5_dvd : ∀ (k d : Nat), 2 ^ k ∣ r5 d → 2 ^ k ∣ d
  | 0, d, _ => by simp
  | k + 1, d, h => by
    have h2 : 2 ∣ r5 d := Nat.dvd_trans (by rw [Nat.pow_succ]; exact Nat.dvd_mul_left 2 _) h
    have he : d % 2 = 0 := by
      have := r5_odd d
      omega
    obtain ⟨e, rfl⟩ : ∃ e, d = e + e := ⟨d / 2, by omega⟩
    rw [r5_dbl, Nat.pow_succ, Nat.mul_comm (2 ^ k) 2] at h
    have h3 : 2 ^ k ∣ r5 e * (2 * r5 e + 1) := Nat.dvd_of_mul_dvd_mul_left (by decide) h
    have hc : Nat.Coprime (2 ^ k) (2 * r5 e + 1) := by
      refine Nat.Coprime.pow_left k ?_
      show Nat.gcd 2 (2 * r5 e + 1) = 1
      rw [Nat.gcd_rec, show (2 * r5 e + 1) % 2 = 1 by omega]
      decide
    have h4 := r5_dvd k e (hc.dvd_of_dvd_mul_right h3)
    rw [Nat.pow_succ, show e + e = e * 2 by omega]
    exact Nat.mul_dvd_mul_right h4 2
theorem r5_round : ∀ k, 2 ^ k ∣ r5 (2 ^ k)
  | 0 => by simp
  | k + 1 => by
    have h := r5_round k
    rw [show 2 ^ (k + 1) = 2 ^ k + 2 ^ k by rw [Nat.pow_succ]; omega, r5_dbl, show 2 ^ k + 2 ^ k = 2 * 2 ^ k by omega]
    exact Nat.mul_dvd_mul_left 2 (Nat.dvd_trans h (Nat.dvd_mul_right _ _))
def MG (m : Nat) : Prop := ∃ k, m + 1 = 2 ^ k ∧ m ≤ 8191
theorem MG.odd {m : Nat} (h : MG m) (h1 : 1 ≤ m) : m % 2 = 1 := by
  obtain ⟨k, e, _⟩ := h
  cases k with
  | zero => simp at e; omega
  | succ k => rw [Nat.pow_succ] at e; omega
theorem lcg_r5 (m : Nat) : ∀ n, lcgN m n = r5 n % (m + 1)
  | 0 => by show 0 = 0 % _; simp
  | n + 1 => by
    show (lcgN m n * 5 + 1) % (m + 1) = (5 * r5 n + 1) % (m + 1)
    rw [lcg_r5 m n]
    simp [Nat.add_mod, Nat.mul_mod, Nat.mul_comm]
theorem r5_inj {k a b : Nat} (h : a < b) (hb : b < 2 ^ k) : r5 a % 2 ^ k ≠ r5 b % 2 ^ k := fun e => by
  have e2 : r5 b = r5 (b - a) * 5 ^ a + r5 a := by rw [← r5_add, Nat.sub_add_cancel (Nat.le_of_lt h)]
  have hd : 2 ^ k ∣ r5 (b - a) * 5 ^ a := by
    have : 2 ^ k ∣ r5 b - r5 a := Nat.dvd_of_mod_eq_zero (Nat.sub_mod_eq_zero_of_mod_eq e.symm)
    rw [e2, Nat.add_sub_cancel] at this
    exact this
  have hc : Nat.Coprime (2 ^ k) (5 ^ a) := Nat.Coprime.pow_left k (Nat.Coprime.pow_right a (by decide))
  have h4 := Nat.le_of_dvd (by omega) (r5_dvd k _ (hc.dvd_of_dvd_mul_right hd))
  omega
theorem lcg_onto {m : Nat} (hm : MG m) {j : Nat} (hj : j ≤ m) : ∃ b, b ≤ m ∧ lcgN m b = j := by
  obtain ⟨k, ek, _⟩ := hm
  rcases Classical.em (∃ b, b ≤ m ∧ lcgN m b = j) with c | c
  · exact c
  · exfalso
    have nd : ((List.range (m + 1)).map (lcgN m)).Nodup := by
      rw [List.nodup_iff_pairwise_ne, List.pairwise_map]
      refine List.Pairwise.imp_of_mem (fun {a b} ha hb h e => ?_) List.pairwise_lt_range
      rw [lcg_r5, lcg_r5, ek] at e
      exact r5_inj h (by rw [← ek]; exact List.mem_range.mp hb) e
    have nd2 : (j :: (List.range (m + 1)).map (lcgN m)).Nodup := List.nodup_cons.mpr ⟨fun h => by
      obtain ⟨b, h1, h2⟩ := List.mem_map.mp h
      exact c ⟨b, by have := List.mem_range.mp h1; omega, h2⟩, nd⟩
    have := nat_nodup_len _ (List.range (m + 1)) nd2 fun x hx => by
      rcases List.mem_cons.mp hx with e | h
      · rw [e]; exact List.mem_range.mpr (by omega)
      · obtain ⟨b, h1, h2⟩ := List.mem_map.mp h
        rw [← h2, lcg_r5]
        exact List.mem_range.mpr (Nat.mod_lt _ (Nat.succ_pos _))
    rw [List.length_cons, List.length_map, List.length_range] at this
    omega
theorem lcg_rounds {m : Nat} (hm : MG m) (n : Nat) : lcgN m (m + 1 + n) = lcgN m n := by
  obtain ⟨k, ek, _⟩ := hm
  rw [lcg_r5, lcg_r5, r5_add, ek]
  obtain ⟨q, e⟩ := r5_round k
  rw [e, Nat.mul_assoc, Nat.mul_add_mod]
theorem lcgI_onto {m : Nat} (hm : MG m) {i j : Nat} (hi : i ≤ m) (hj : j ≤ m) : ∃ k, k ≤ m ∧ lcgI m i k = j := by
  obtain ⟨a, ha, rfl⟩ := lcg_onto hm hi
  obtain ⟨b, hb, rfl⟩ := lcg_onto hm hj
  by_cases c : a ≤ b
  · exact ⟨b - a, by omega, by rw [lcgN_add, show a + (b - a) = b by omega]⟩
  · exact ⟨m + 1 + b - a, by omega, by rw [lcgN_add, show a + (m + 1 + b - a) = m + 1 + b by omega, lcg_rounds hm]⟩
theorem run_hits {m : Nat} (hm : MG m) (h : Int) {j : Nat} (hj : j ≤ m) : ∃ n, n ≤ m + 12 ∧ runI m (SetTable.bits h) n = j :=
  let ⟨k, h1, h2⟩ := lcgI_onto hm (runI_le m (SetTable.bits h) 12) hj
  ⟨12 + k, by omega, (runI_tail (bits_lt h) k).trans h2⟩
theorem way_hits {m : Nat} (hm : MG m) (h : Int) {j : Nat} (hj : j ≤ m) : ∃ k, k < 10 * SetTable.turns m ∧ way m h k = j := by
  obtain ⟨n, h1, h2⟩ := run_hits hm h hj
  obtain ⟨k, h3, h4⟩ := run_nth m (SetTable.bits h) n
  refine ⟨k, by unfold SetTable.turns; omega, ?_⟩
  unfold way
  rw [h4]
  exact h2
theorem way_in (m : Nat) (h : Int) (k : Nat) : way m h k ≤ m := by
  have hi : SetTable.bits h % (m + 1) ≤ m := Nat.le_of_lt_succ (Nat.mod_lt (SetTable.bits h) (Nat.succ_pos m))
  have := runEnd_bd hi
  have q := nth_in (m := m) k (runAt m (SetTable.bits h % (m + 1)) (SetTable.bits h)) (by
    show SetTable.bits h % (m + 1) + (SetTable.runEnd m (SetTable.bits h % (m + 1)) - SetTable.bits h % (m + 1)) ≤ m
    omega)
  unfold way
  omega
def OnWay (m : Nat) (s : Nat → Prop) (h : Int) (j : Nat) : Prop := ∃ k, way m h k = j ∧ ∀ i, i < k → s (way m h i)
structure TabG (t : SetTable) (hs : List Int) : Prop where
  up : Ris t.place.toList
  nod : t.dummies = #[]
  len : t.place.size = hs.length
  msk : MG t.mask
  big : 7 ≤ t.mask
  low : ∀ x ∈ t.place.toList, x ≤ t.mask
  fnd : ∀ (i : Nat) (h : Int) (j : Nat), hs[i]? = some h → t.place.toList[i]? = some j → OnWay t.mask (· ∈ t.place.toList) h j
theorem TabG.end_ {t : SetTable} {hs : List Int} (T : TabG t hs) (hl : hs.length ≤ t.mask) (h : Int) :
    ∃ K, K < 10 * SetTable.turns t.mask ∧ way t.mask h K ∉ t.place.toList ∧ ∀ k, k < K → way t.mask h k ∈ t.place.toList := by
  obtain ⟨j, hj, hn⟩ := st_missing t.place.toList (t.mask + 1) (by rw [Array.length_toList, T.len]; omega)
  obtain ⟨k, hk, e⟩ := way_hits T.msk h (j := j) (by omega)
  obtain ⟨K, h1, h2, h3⟩ := st_least (p := fun k => way t.mask h k ∉ t.place.toList) k (by rw [e]; exact hn)
  exact ⟨K, by omega, h2, fun i hi => Classical.byContradiction (h3 i hi)⟩
theorem TabG.pre {t : SetTable} {hs : List Int} (T : TabG t hs) {h : Int} {K i j : Nat} (hK : way t.mask h K ∉ t.place.toList) (hi : hs[i]? = some h) (hj : t.place.toList[i]? = some j) : ∃ k, k < K ∧ way t.mask h k = j := by
  obtain ⟨k, e, z⟩ := T.fnd i h j hi hj
  refine ⟨k, Nat.lt_of_not_le fun c => ?_, e⟩
  rcases Nat.eq_or_lt_of_le c with c | c
  · rw [c, e] at hK; exact hK (List.mem_of_getElem? hj)
  · exact hK (z K c)
end DL
end
section
set_option maxRecDepth 100000
set_option maxHeartbeats 4000000
namespace DL
open PySem PySem.Spec PyProof.Rows L2
theorem TabG.put {t : SetTable} {hs : List Int} (T : TabG t hs) {h : Int} {K p : Nat} (hK : way t.mask h K ∉ t.place.toList) (hb : ∀ k, k < K → way t.mask h k ∈ t.place.toList) (hp : SetTable.below t.place (way t.mask h K) = p) :
    p ≤ hs.length ∧ TabG (t.put (way t.mask h K)).1 (hs.take p ++ h :: hs.drop p) ∧ (t.put (way t.mask h K)).1.fill = hs.length + 1 := by
  obtain ⟨j, hj⟩ : ∃ j, j = way t.mask h K := ⟨_, rfl⟩
  rw [← hj] at hK hp ⊢
  have p1 : p ≤ t.place.size := by rw [← hp]; exact (below_cut T.up j).1
  have p2 : p ≤ hs.length := by rw [← T.len]; exact p1
  have p3 : p ≤ t.place.toList.length := by rw [Array.length_toList]; exact p1
  have fresh : t.place[SetTable.below t.place j]? ≠ some j := fun e => hK (List.mem_of_getElem? (by rw [Array.getElem?_toList]; exact e))
  have pl := put_place t j
  rw [hp] at pl
  have sub : ∀ x, x ∈ t.place.toList → x ∈ (t.put j).1.place.toList := fun x hx => by rw [pl]; exact mem_ins.mpr (.inr hx)
  have sz : (t.put j).1.place.size = hs.length + 1 := by rw [← Array.length_toList, pl, len_ins _ p3, Array.length_toList, T.len]
  have dm := put_dm T.nod j
  refine ⟨p2, { up := ris_insert T.up fresh, nod := dm, len := by rw [len_ins _ p2, sz], msk := T.msk, big := T.big, low := fun x hx => ?_, fnd := fun i h' j' e1 e2 => ?_ }, ?_⟩
  · rw [pl] at hx
    rcases mem_ins.mp hx with rfl | hx
    · rw [hj]; exact way_in _ _ _
    · exact T.low x hx
  · rw [tins_get hs p2] at e1
    rw [pl, tins_get _ p3] at e2
    have old : ∀ q, hs[q]? = some h' → t.place.toList[q]? = some j' → OnWay t.mask (· ∈ (t.put j).1.place.toList) h' j' := fun q a b =>
      let ⟨k, e, z⟩ := T.fnd q h' j' a b
      ⟨k, e, fun i hi => sub _ (z i hi)⟩
    rcases Nat.lt_trichotomy i p with c | c | c
    · rw [if_pos c] at e1 e2
      exact old i e1 e2
    · rw [if_neg (by omega), if_pos c] at e1 e2
      cases e1
      cases e2
      exact ⟨K, hj.symm, fun k hk => sub _ (hb k hk)⟩
    · rw [if_neg (by omega), if_neg (by omega)] at e1 e2
      exact old (i - 1) e1 e2
  · show (t.put j).1.place.size + (t.put j).1.dummies.size = _
    rw [dm, sz]
    rfl
theorem free_at {m : Nat} (hm : MG m) (ow : Array (Option Nat)) (h : Int) {j : Nat} (hj : j ≤ m) (hf : oAt ow j = none) :
    ∃ K, SetTable.layClean.free m ow (SetTable.turns m) (SetTable.bits h % (m + 1)) (SetTable.bits h) = some (way m h K) ∧ oAt ow (way m h K) = none ∧ ∀ k, k < K → oAt ow (way m h k) ≠ none := by
  obtain ⟨n, hn, e⟩ := run_hits hm h hj
  have at_ : way m h (off m (SetTable.bits h % (m + 1)) (SetTable.bits h) n) = j := by
    unfold way
    rw [nth_off, itL_run]
    exact e
  obtain ⟨K, k1, k2, k3⟩ := st_least (p := fun k => oAt ow (way m h k) = none) _ (by rw [at_]; exact hf)
  refine ⟨K, free_spec m ow _ n _ _ K (by unfold SetTable.turns; omega) k1 (fun k hk => ?_) (by rw [show oAt ow (nth m (runAt m (SetTable.bits h % (m + 1)) (SetTable.bits h)) K).j = none from k2]; rfl), k2, k3⟩
  exact Bool.eq_false_iff.mpr fun z => k3 k hk (Option.isNone_iff_eq_none.mp z)
theorem own_next {m : Nat} (hm : MG m) {done : List Int} {ow : Array (Option Nat)} (O : Own m done ow) (hl : done.length ≤ m) (h : Int) :
    ∃ j, SetTable.layClean.free m ow (SetTable.turns m) (SetTable.bits h % (m + 1)) (SetTable.bits h) = some j ∧ Own m (done ++ [h]) (ow.setIfInBounds j (some done.length)) := by
  obtain ⟨ps, len, cov⟩ := O.ps
  obtain ⟨f, f1, f2⟩ := st_missing ps (m + 1) (by omega)
  obtain ⟨K, r, free, taken⟩ := free_at hm ow h (j := f) (by omega) (Classical.byContradiction fun z => f2 (cov f (by omega) z))
  have wm := way_in m h K
  have me := oAt_set_self (owner := ow) (some done.length) (j := way m h K) (by rw [O.sz]; omega)
  have others : ∀ {i}, i ≠ way m h K → oAt (ow.setIfInBounds (way m h K) (some done.length)) i = oAt ow i := fun c => oAt_set_ne _ c
  have stay : ∀ i, oAt ow i ≠ none → oAt (ow.setIfInBounds (way m h K) (some done.length)) i ≠ none := fun i z => by
    by_cases c : i = way m h K
    · rw [c, me]; simp
    · rw [others c]; exact z
  refine ⟨_, r, { sz := by rw [Array.size_setIfInBounds, O.sz], at_ := fun j k hj e => ?_, all := fun k hk => ?_, ps := ⟨way m h K :: ps, by simp [len], fun j hj z => ?_⟩ }⟩
  · by_cases c : j = way m h K
    · rw [c, me] at e
      cases e
      exact ⟨h, K, by simp, c.symm, fun i hi => stay _ (taken i hi)⟩
    · rw [others c] at e
      obtain ⟨h', K', a, b, d⟩ := O.at_ j k hj e
      exact ⟨h', K', by rw [List.getElem?_append_left (List.getElem?_eq_some_iff.mp a).1]; exact a, b, fun i hi => stay _ (d i hi)⟩
  · by_cases c : k = done.length
    · exact ⟨_, wm, by rw [me, c]⟩
    · obtain ⟨j, a, b⟩ := O.all k (by simp at hk; omega)
      exact ⟨j, a, by rw [others (fun z => by rw [z, free] at b; cases b)]; exact b⟩
  · by_cases c : j = way m h K
    · rw [c]; exact List.mem_cons_self
    · rw [others c] at z
      exact List.mem_cons_of_mem _ (cov j hj z)
theorem lay_all {m : Nat} (hm : MG m) : ∀ (more done : List Int) (ow : Array (Option Nat)), Own m done ow → done.length + more.length ≤ m →
    ∃ ow', more.foldl (stepF m) (some (ow, done.length)) = some (ow', (done ++ more).length) ∧ Own m (done ++ more) ow'
  | [], done, ow, O, _ => ⟨ow, by simp, by simpa using O⟩
  | h :: more, done, ow, O, hl => by
    simp only [List.length_cons] at hl
    obtain ⟨j, e, O2⟩ := own_next hm O (by omega) h
    obtain ⟨ow', f, O3⟩ := lay_all hm more (done ++ [h]) _ O2 (by simp; omega)
    refine ⟨ow', ?_, by simpa using O3⟩
    rw [List.foldl_cons, stepF_some e]
    simpa using f
theorem laid_ok {m : Nat} (hm : MG m) {hs : Array Int} (hn : hs.size ≤ m) : ∃ ow, SetTable.layClean m hs = some ow ∧ Own m hs.toList ow := by
  obtain ⟨ow, f, O⟩ := lay_all hm hs.toList [] _ (Own.init m) (by simpa using hn)
  refine ⟨ow, ?_, by simpa using O⟩
  rw [layClean_eq]
  simp only [List.length_nil] at f
  rw [f]
  rfl
theorem anew_ok (t : SetTable) {hs : Array Int} {wanted M : Nat} (hw : SetTable.sizeAbove wanted - 1 = M) (hM : MG M) (h7 : 7 ≤ M) (hn : hs.size ≤ M) :
    ∃ t' order, t.relaid hs wanted = some (t', order) ∧ order.toList.Perm (List.range hs.size) ∧ TabG t' (order.toList.map fun i => hs.getD i 0) ∧ t'.mask = M ∧ t'.led = t.led ∧ t'.plain = t.plain := by
  obtain ⟨ow, e, O⟩ := laid_ok hM hn
  refine ⟨tabOf t M ow, ((liveOf M ow).map (·.2)).toArray, by rw [relaid_eq, hw, e]; rfl, ?_, ?_, rfl, rfl, rfl⟩
  all_goals
    have rs := ris_live (fun j => ow.getD j none) (List.range (M + 1)) (show Ris _ from List.pairwise_lt_range)
    have up : Ris ((liveOf M ow).map (·.1)) := rs.1
    have low : ∀ x ∈ (liveOf M ow).map (·.1), x ∈ List.range (M + 1) := rs.2
  · have have_ : ∀ k, k < hs.size → k ∈ (liveOf M ow).map (·.2) := fun k hk => by
      obtain ⟨j, b1, b2⟩ := O.all k (by simpa using hk)
      exact List.mem_map.mpr ⟨(j, k), (mem_live O.sz).mpr ⟨b1, b2⟩, rfl⟩
    refine perm_range hs.size _ (Nat.le_antisymm ?_ ?_) have_
    · obtain ⟨ps, l1, l2⟩ := O.ps
      have nd : ((liveOf M ow).map (·.1)).Nodup := List.Pairwise.imp (fun h => Nat.ne_of_lt h) up
      have := nat_nodup_len ((liveOf M ow).map (·.1)) ps nd fun x hx => by
        obtain ⟨⟨y, k⟩, hq, rfl⟩ := List.mem_map.mp hx
        obtain ⟨b1, b2⟩ := (mem_live O.sz).mp hq
        exact l2 y b1 (by rw [b2]; simp)
      rw [l1] at this
      simpa using this
    · have := nat_nodup_len (List.range hs.size) ((liveOf M ow).map (·.2)) List.nodup_range fun k hk => have_ k (List.mem_range.mp hk)
      simpa using this
  · refine { up := up, nod := rfl, len := by simp [tabOf], msk := hM, big := h7, low := fun x hx => by have := List.mem_range.mp (low x hx); show x ≤ M; omega, fnd := fun i h j e1 e2 => ?_ }
    have e1 : (((liveOf M ow).map (·.2)).map fun i => hs.getD i 0)[i]? = some h := e1
    have e2 : ((liveOf M ow).map (·.1))[i]? = some j := e2
    rw [List.map_map, List.getElem?_map] at e1
    rw [List.getElem?_map] at e2
    obtain ⟨⟨j', k⟩, q, rfl⟩ := Option.map_eq_some_iff.mp e2
    rw [q] at e1
    cases e1
    obtain ⟨b1, b2⟩ := (mem_live O.sz).mp (List.mem_of_getElem? q)
    obtain ⟨h0, K, a1, a2, a3⟩ := O.at_ j' k b1 b2
    have e0 : hs.getD k 0 = h0 := by rw [Array.getD_eq_getD_getElem?, ← Array.getElem?_toList, a1]; rfl
    show OnWay M _ (hs.getD k 0) j'
    rw [e0]
    refine ⟨K, a2, fun i hi => ?_⟩
    show way M h0 i ∈ (liveOf M ow).map (·.1)
    cases z : oAt ow (way M h0 i) with
    | none => exact absurd z (a3 i hi)
    | some k2 => exact List.mem_map.mpr ⟨(_, k2), (mem_live O.sz).mpr ⟨way_in _ _ _, z⟩, rfl⟩
end DL
end
section
set_option maxRecDepth 100000
set_option maxHeartbeats 4000000
namespace DL
open PySem PySem.Spec PyProof.Rows L2
structure SG (P : Program) (w : World) (h : Heap) (a : Addr) (L : List (Addr × List Int)) (es : Array (Int × Value)) (ep : Nat) (t : SetTable) : Prop where
  ob : ∃ o, h.get? a = some o ∧ o.ExactSet ∧ o.data = .set es ep t
  rows : es.toList = rowsOf P w L
  tab : TabG t (L.map fun p => thash P w p.2)
  nd : (L.map (·.2)).Nodup
  tup : ∀ p ∈ L, IsT P w h p.2 p.1
  plain : t.plain = true
  led : w.params.followText "set-order" = true ∨ t.led = true
  room : L.length * 5 < t.mask * 3
section
variable {P : Program} {w : World} {A : Around} {E : Value → Shared → Prop} {s : Shared} {h : Heap} {a : Addr} {L : List (Addr × List Int)} {es : Array (Int × Value)} {ep : Nat} {t : SetTable}
theorem rows_len (r : es.toList = rowsOf P w L) : es.size = L.length := by
  have := congrArg List.length r
  simpa [rowsOf] using this
theorem rows_at (r : es.toList = rowsOf P w L) {i : Nat} {p : Addr × List Int} (e : L[i]? = some p) : es[i]? = some (thash P w p.2, Value.ref p.1) := by
  rw [← Array.getElem?_toList, r]
  simp [rowsOf, e]
theorem fits_of (sz : t.place.size = es.size) (nd : t.dummies = #[]) (l : es.size ≤ t.mask) : t.fits es.size = true := by
  unfold SetTable.fits SetTable.fill
  rw [nd, sz]
  simpa using l
theorem SG.fits (R : SG P w h a L es ep t) : t.fits es.size = true := by
  have h1 := R.tab.len
  have h2 := rows_len R.rows
  have h3 := R.room
  rw [List.length_map] at h1
  exact fits_of (by omega) R.tab.nod (by omega)
theorem SG.steady (R : SG P w h a L es ep t) : ¬ t.gaveWay = true := by
  unfold SetTable.gaveWay
  rw [R.tab.msk.odd (Nat.le_trans (by decide) R.tab.big)]
  decide
theorem nth_dummy (m : Nat) : ∀ (n : Nat) (p : SetTable.Probe), p.dummy = none → (nth m p n).dummy = none
  | 0, _, e => e
  | n + 1, p, e => nth_dummy m n _ (by unfold adv; split <;> exact e)
theorem seek (R : SG P w s.heap a L es ep t) {x : Addr} {k : List Int} (hx : IsT P w s.heap k x) (hu : A.units < cLine) {K : Nat} (bound : K < 10 * SetTable.turns t.mask)
    (stop : way t.mask (thash P w k) K ∉ t.place.toList) (full : ∀ c, c < K → way t.mask (thash P w k) c ∈ t.place.toList) {Q : SetFound → Shared → Prop}
    (yes : k ∈ L.map (·.2) → Q (.there none) s) (no : k ∉ L.map (·.2) → Q (.free (way t.mask (thash P w k) K) false) s) (f : Nat) :
    ∀ (c : Nat) (from_ : Option SetTable.Probe), from_.getD (t.probeStart (thash P w k)) = nth t.mask (t.probeStart (thash P w k)) c → c ≤ K → K < c + f →
      (∀ (i : Nat) p, L[i]? = some p → p.2 = k → ∃ c', c ≤ c' ∧ c' < K ∧ t.place.toList[i]? = some (way t.mask (thash P w k) c')) →
      wpAny (model P w) A (setSearchFrom a (.ref x) (thash P w k) true f from_) Q E s := by
  obtain ⟨o, ho, hex, hd⟩ := R.ob
  have start : ∀ c, (nth t.mask (t.probeStart (thash P w k)) c).j = way t.mask (thash P w k) c := fun c => rfl
  induction f with
  | zero => intro c _ _ h1 h2 _; omega
  | succ f ih =>
    intro c from_ at_ h1 h2 same
    have jump : ∀ q, (nth t.mask (nth t.mask (t.probeStart (thash P w k)) c) q).j = way t.mask (thash P w k) (c + q) := fun q => by rw [← nth_add]; rfl
    have eqHash : ∀ (i : Nat) p, L[i]? = some p → (es[i]?.map (·.1)).getD 0 = thash P w p.2 := fun i p e => by rw [rows_at R.rows e]; rfl
    rw [setSearchFrom_succ]
    refine wpAny_bind (wpAny_setState_of ho hd R.fits ?_)
    dsimp only
    refine wp_if_neg R.steady ?_
    try refine wpAny_bind (wpAny_pure ?_)
    rcases go_spec t R.tab.up R.tab.nod (fun i => (es[i]?.map (·.1)).getD 0) (thash P w k) (10 * SetTable.turns t.mask) (K - c) (nth t.mask (t.probeStart (thash P w k)) c) (nth_dummy _ c _ rfl) (by omega)
      (fun q hq => by rw [jump]; exact full _ (by omega)) (by rw [jump, show c + (K - c) = K by omega]; exact stop) with ⟨q, i, hq, hi, hh, before, pr⟩ | ⟨before, pr⟩
    · -- one of the same hash
      rw [jump] at hi
      have look : t.probe (fun i => (es[i]?.map (·.1)).getD 0) (thash P w k) (from_.getD (t.probeStart (thash P w k))) = some (.candidate (way t.mask (thash P w k) (c + q)) i (nth t.mask (t.probeStart (thash P w k)) (c + q + 1))) := by
        rw [at_, ← jump, show c + q + 1 = c + (q + 1) by omega, nth_add]
        exact pr
      rw [look]
      dsimp only
      have hil : i < L.length := by
        have z := (List.getElem?_eq_some_iff.mp hi).1
        have z2 := R.tab.len
        rw [Array.length_toList, z2, List.length_map] at z
        exact z
      obtain ⟨p, hp⟩ : ∃ p, L[i]? = some p := ⟨_, List.getElem?_eq_getElem hil⟩
      have pin : p ∈ L := List.mem_of_getElem? hp
      have live := slot_live R.tab.up hi
      have cont : wpAny (model P w) A (searchRest a (.ref x) (thash P w k) true f es t (way t.mask (thash P w k) (c + q)) i (nth t.mask (t.probeStart (thash P w k)) (c + q + 1))) Q E s := by
        unfold searchRest
        rw [rows_at R.rows hp]
        dsimp only
        refine wpAny_bind (wpAny_holding (wpAny_eqBool_tuple hu (R.tup p pin) hx ?_))
        refine wpAny_bind (wpAny_setState_of ho hd R.fits ?_)
        dsimp only
        by_cases hk : p.2 = k
        · exact wp_if_pos (by simp [hk]) (wpAny_pure (yes (List.mem_map.mpr ⟨p, pin, hk⟩)))
        · refine wp_if_neg (by simp [hk]) ?_
          try refine wpAny_bind (wpAny_pure ?_)
          rw [sameMem]
          dsimp only
          simp only [if_true, live, rows_at R.rows hp]
          refine wpAny_bind (wpAny_isSame_ref_self (wpAny_bind (wpAny_pure ?_)))
          simp only [if_true]
          refine wp_if_neg (by simp [hk]) (ih (c + q + 1) _ rfl (by omega) (by omega) fun i0 p0 e0 k0 => ?_)
          obtain ⟨c', a1, a2, a3⟩ := same i0 p0 e0 k0
          refine ⟨c', ?_, a2, a3⟩
          have n1 : ¬ c' < c + q := fun z => before (c' - c) i0 (by omega) (by rw [jump, show c + (c' - c) = c' by omega]; exact a3) ((eqHash i0 p0 e0).trans (by rw [k0]))
          have n2 : c' ≠ c + q := fun z => by
            rw [z] at a3
            have l2 := slot_live R.tab.up a3
            rw [live] at l2
            cases l2
            rw [hp] at e0
            cases e0
            exact hk k0
          omega
      by_cases hl : t.led = true
      · refine wp_if_neg (by simp [hl]) ?_
        try refine wpAny_bind (wpAny_pure ?_)
        exact cont
      · refine wp_if_pos (by simp [hl]) (wpAny_bind (seen_tup hx (fun y hy => ?_) ?_))
        · obtain ⟨e, he, rfl⟩ := List.mem_map.mp hy
          have he2 : e ∈ es.toList := by
            have : e ∈ es ∧ e.1 = thash P w k := by simpa using he
            simpa using this.1
          rw [R.rows] at he2
          obtain ⟨p2, hp2, rfl⟩ := List.mem_map.mp he2
          exact ⟨p2.2, p2.1, rfl, R.tup p2 hp2⟩
        · refine wp_if_neg (by decide) ?_
          try refine wpAny_bind (wpAny_pure ?_)
          exact cont
    · -- none is there
      have look : t.probe (fun i => (es[i]?.map (·.1)).getD 0) (thash P w k) (from_.getD (t.probeStart (thash P w k))) = some (.empty (way t.mask (thash P w k) K) none) := by
        have e2 : way t.mask (thash P w k) K = (nth t.mask (nth t.mask (t.probeStart (thash P w k)) c) (K - c)).j := by rw [jump, show c + (K - c) = K by omega]
        rw [at_, e2]
        exact pr
      rw [look]
      dsimp only
      refine wpAny_pure (no fun z => ?_)
      obtain ⟨p0, z1, z2⟩ := List.mem_map.mp z
      obtain ⟨i0, z3, z4⟩ := List.getElem_of_mem z1
      have e0 : L[i0]? = some p0 := by rw [List.getElem?_eq_getElem z3, z4]
      obtain ⟨c', a1, a2, a3⟩ := same i0 p0 e0 z2
      exact before (c' - c) i0 (by omega) (by rw [jump, show c + (c' - c) = c' by omega]; exact a3) ((eqHash i0 p0 e0).trans (by rw [z2]))
theorem search_ (R : SG P w s.heap a L es ep t) {x : Addr} {k : List Int} (hx : IsT P w s.heap k x) (hu : A.units < cLine) {Q : SetFound → Shared → Prop} (yes : k ∈ L.map (·.2) → Q (.there none) s)
    (no : ∀ K, k ∉ L.map (·.2) → way t.mask (thash P w k) K ∉ t.place.toList → (∀ c, c < K → way t.mask (thash P w k) c ∈ t.place.toList) → Q (.free (way t.mask (thash P w k) K) false) s) :
    wpAny (model P w) A (setSearch a (.ref x) (thash P w k) true) Q E s := by
  have room := R.room
  obtain ⟨K, b, st, fl⟩ := R.tab.end_ (by rw [List.length_map]; omega) (thash P w k)
  have : K < 100000 := by
    obtain ⟨_, _, z⟩ := R.tab.msk
    unfold SetTable.turns at b
    omega
  refine seek R hx hu b st fl yes (fun n => no K n st fl) 100000 0 none rfl (Nat.zero_le _) (by omega) fun i p hp hk => ?_
  have il : i < t.place.toList.length := by
    have z := (List.getElem?_eq_some_iff.mp hp).1
    rw [Array.length_toList, R.tab.len, List.length_map]
    exact z
  have hj := List.getElem?_eq_getElem il
  obtain ⟨c, hc, e⟩ := R.tab.pre st (h := thash P w k) (i := i) (by rw [List.getElem?_map, hp, ← hk]; rfl) hj
  exact ⟨c, Nat.zero_le _, hc, by rw [hj, e]⟩
end
end DL
end
section
set_option maxRecDepth 100000
set_option maxHeartbeats 4000000
namespace DL
open PySem PySem.Spec PyProof.Rows L2
theorem above_go : ∀ (f c n : Nat), n < c * 2 ^ f → ∃ j, SetTable.sizeAbove.go n f c = c * 2 ^ j ∧ n < c * 2 ^ j ∧ (c * 2 ^ j = c ∨ c * 2 ^ j ≤ 2 * n)
  | 0, c, n, h => ⟨0, by simp [SetTable.sizeAbove.go], by simpa using h, .inl (by simp)⟩
  | f + 1, c, n, h => by
    unfold SetTable.sizeAbove.go
    by_cases z : c ≤ n
    · rw [if_pos z]
      obtain ⟨j, a, b, d⟩ := above_go f (c * 2) n (by rw [Nat.pow_succ] at h; rw [Nat.mul_assoc, Nat.mul_comm 2]; exact h)
      have e : c * 2 * 2 ^ j = c * 2 ^ (j + 1) := by rw [Nat.pow_succ, Nat.mul_assoc, Nat.mul_comm 2]
      rw [e] at a b d
      exact ⟨j + 1, a, b, .inr (d.elim (fun q => by omega) id)⟩
    · rw [if_neg z]
      exact ⟨0, by simp, by simp; omega, .inl (by simp)⟩
theorem above_ok {n : Nat} (h : n ≤ 8188) : ∃ M, SetTable.sizeAbove n - 1 = M ∧ MG M ∧ 7 ≤ M ∧ n ≤ M ∧ SetTable.sizeAbove n ≤ 8192 := by
  obtain ⟨j, a, b, d⟩ := above_go 64 8 n (Nat.lt_of_le_of_lt h (by decide))
  have a : SetTable.sizeAbove n = 8 * 2 ^ j := a
  have e : 8 * 2 ^ j = 2 ^ (3 + j) := by rw [Nat.pow_add]
  have p : 1 ≤ 2 ^ j := Nat.one_le_two_pow
  have u : 8 * 2 ^ j ≤ 8192 := by
    by_cases z : j ≤ 10
    · have := Nat.pow_le_pow_right (show 0 < 2 by decide) z
      omega
    · have := Nat.pow_le_pow_right (show 0 < 2 by decide) (show 11 ≤ j by omega)
      omega
  exact ⟨8 * 2 ^ j - 1, by rw [a], ⟨3 + j, by rw [← e]; omega, by omega⟩, by omega, by omega, by rw [a]; exact u⟩
section
variable {P : Program} {w : World} {A : Around} {E : Value → Shared → Prop} {s : Shared} {a : Addr} {L : List (Addr × List Int)} {es : Array (Int × Value)} {ep : Nat} {t : SetTable}
theorem larger {o : Obj} (ho : s.heap.get? a = some o) (hex : o.ExactSet) (hd : o.data = .set es ep t) (rows : es.toList = rowsOf P w L) (sz : t.place.size = es.size) (nod : t.dummies = #[]) (fl : es.size ≤ t.mask) (nd : (L.map (·.2)).Nodup)
    (tup : ∀ p ∈ L, IsT P w s.heap p.2 p.1) (pl : t.plain = true) (ld : w.params.followText "set-order" = true ∨ t.led = true) {n : Nat} (hn : n ≤ 8188) (hl : L.length * 4 ≤ n) {Q : Unit → Shared → Prop}
    (hQ : ∀ h' L' es' ep' t', Heap.SameBut a s.heap h' → SG P w h' a L' es' ep' t' → L'.Perm L → Q () { s with heap := h' }) : wpAny (model P w) A (setRelay a n) Q E s := by
  obtain ⟨M, m1, m2, m3, m4, m5⟩ := above_ok hn
  have len := rows_len rows
  obtain ⟨t', order, r, pm, T, tm, tl, tp⟩ := anew_ok t (hs := es.map (·.1)) m1 m2 m3 (by rw [Array.size_map]; omega)
  rw [Array.size_map, len] at pm
  obtain ⟨L2, r1, r2, r3⟩ := order_rows L es order rows pm
  rw [← r3] at T
  have len2 : (order.filterMap (es[·]?)).size = es.size := by
    have := rows_len r1
    rw [this, r2.length_eq, len]
  rw [setRelay_eq]
  refine wpAny_bind (wpAny_setState_of ho hd (fits_of sz nod fl) ?_)
  dsimp only
  refine wp_if_neg (by rw [sizeLine_eq]; omega) ?_
  try refine wpAny_bind (wpAny_pure ?_)
  rw [r]
  dsimp only
  refine wpAny_bind (wp_if_neg (by rw [len2]; simp) ?_)
  try refine wpAny_bind (wpAny_pure ?_)
  refine wpAny_pure ?_
  dsimp only
  refine wpAny_storeSet_of ho hd ?_ (by rw [len2, len, sizeLine_eq]; omega)
  have sb : Heap.SameBut a s.heap (s.heap.update a (Obj.putSet (order.filterMap (es[·]?)) t')) := Heap.SameBut.update ..
  refine hQ _ L2 _ (ep + 1) t' sb { ob := ⟨_, store_at ho hd, ⟨hex.1, hex.2.1, hex.2.2⟩, rfl⟩, rows := r1, tab := T, nd := (r2.map (·.2)).nodup_iff.mpr nd, tup := fun p hp => isT_same (tup p (r2.mem_iff.mp hp)) ho hd sb, plain := by rw [tp]; exact pl, led := by rw [tl]; exact ld, room := ?_ } r2
  rw [r2.length_eq, tm]
  omega
theorem add_more (R : SG P w s.heap a L es ep t) {x : Addr} {k : List Int} (hx : IsT P w s.heap k x) (hu : A.units < cLine) (few : L.length + 1 ≤ 2047) {Q : Bool → Shared → Prop}
    (hQ : ∀ b h' L' es' ep' t', Heap.SameBut a s.heap h' → SG P w h' a L' es' ep' t' → (k ∈ L.map (·.2) → L' = L) → (k ∉ L.map (·.2) → L'.Perm ((x, k) :: L)) → Q b { s with heap := h' }) :
    wpAny (model P w) A (setAddHashed a (.ref x) (thash P w k)) Q E s := by
  obtain ⟨o, ho, hex, hd⟩ := R.ob
  have len := rows_len R.rows
  unfold setAddHashed
  refine wpAny_holding ?_
  rw [show (100000 : Nat) = 99999 + 1 from rfl, setAddHashedIn_succ]
  refine wpAny_bind (wpAny_setState_of ho hd R.fits ?_)
  dsimp only
  refine wp_if_neg (by simp [byScan, Value.scannable]) ?_
  try refine wpAny_bind (wpAny_pure ?_)
  refine wpAny_bind (search_ R hx hu (fun there => ?_) fun K new st fl => ?_)
  · dsimp only
    exact wpAny_pure (hQ false _ L es ep t (Heap.SameBut.refl a s.heap) R (fun _ => rfl) fun z => absurd there z)
  · dsimp only
    refine wpAny_bind (wpAny_setState_of ho hd R.fits ?_)
    dsimp only
    obtain ⟨p, hp⟩ : ∃ p, SetTable.below t.place (way t.mask (thash P w k) K) = p := ⟨_, rfl⟩
    obtain ⟨q1, q2, q3⟩ := R.tab.put st fl hp
    have q4 : (t.put (way t.mask (thash P w k) K)).2 = p := hp
    have q5 : (t.put (way t.mask (thash P w k) K)).1.mask = t.mask := rfl
    have q6 : (t.put (way t.mask (thash P w k) K)).1.led = t.led := rfl
    have q7 : (t.put (way t.mask (thash P w k) K)).1.plain = true := R.plain
    obtain ⟨pt, ept⟩ : ∃ pt, t.put (way t.mask (thash P w k) K) = pt := ⟨_, rfl⟩
    rw [ept] at q2 q3 q4 q5 q6 q7 ⊢
    obtain ⟨t1, p1⟩ := pt
    dsimp only at q2 q3 q4 q5 q6 q7 ⊢
    subst q4
    first
      | (refine wpAny_bind ?_; refine wp_if_pos q7 ?_; refine hashBy_tup hx ?_)
      | refine wp_if_pos q7 (wpAny_bind (hashBy_tup hx ?_))
    simp only [if_true]
    obtain ⟨es1, ees⟩ : ∃ es1, SetTable.insertAt es p1 (thash P w k, Value.ref x) = es1 := ⟨_, rfl⟩
    obtain ⟨L1, eL⟩ : ∃ L1, L.take p1 ++ (x, k) :: L.drop p1 = L1 := ⟨_, rfl⟩
    have rows1 : es1.toList = rowsOf P w L1 := by rw [← ees, ← eL, SetTable.toList_insertAt, rows_put, R.rows]
    have pm : L1.Perm ((x, k) :: L) := by rw [← eL]; exact put_perm L p1 (x, k)
    have len1 : L1.length = L.length + 1 := pm.length_eq
    have len2 : es1.size = L.length + 1 := (rows_len rows1).trans len1
    have tab1 : TabG t1 (L1.map fun p => thash P w p.2) := by
      rw [← eL, List.map_append, List.map_cons, List.map_take, List.map_drop]
      exact q2
    have nd1 : (L1.map (·.2)).Nodup := (pm.map (·.2)).nodup_iff.mpr (List.nodup_cons.mpr ⟨new, R.nd⟩)
    rw [ees]
    clear ees eL q2
    refine wpAny_bind (wpAny_storeSet_of ho hd ?_ (by rw [len2, sizeLine_eq]; omega))
    have sb : Heap.SameBut a s.heap (s.heap.update a (Obj.putSet es1 t1)) := Heap.SameBut.update ..
    have ho1 := store_at (es' := es1) (t' := t1) ho hd
    obtain ⟨h1, eh⟩ : ∃ h1, s.heap.update a (Obj.putSet es1 t1) = h1 := ⟨_, rfl⟩
    rw [eh] at sb ho1 ⊢
    have tup1 : ∀ p ∈ L1, IsT P w h1 p.2 p.1 := fun p hp => by
      rcases List.mem_cons.mp (pm.mem_iff.mp hp) with rfl | hp
      · exact isT_same hx ho hd sb
      · exact isT_same (R.tup p hp) ho hd sb
    have led1 : w.params.followText "set-order" = true ∨ t1.led = true := by rw [q6]; exact R.led
    have full : t1.tooFull = decide ((L.length + 1) * 5 ≥ t.mask * 3) := by
      unfold SetTable.tooFull
      rw [q3, q5, List.length_map]
    by_cases hf : t1.tooFull = true
    · first
        | (refine wpAny_bind ?_; refine wp_if_pos (by simp [hf]) ?_)
        | (refine wp_if_pos (by simp [hf]) ?_; refine wpAny_bind ?_)
      have room := R.room
      rw [len]
      have gr : SetTable.grown (L.length + 1) = (L.length + 1) * 4 := by unfold SetTable.grown; rw [if_neg (by omega)]
      refine larger (s := { s with heap := h1 }) ho1 ⟨hex.1, hex.2.1, hex.2.2⟩ rfl rows1 (by rw [tab1.len, List.length_map, len1, len2]) tab1.nod (by rw [len2, q5]; have := R.tab.big; omega) nd1 tup1 q7 led1 (by rw [gr]; omega) (by rw [gr, len1]; exact Nat.le_refl _) fun h2 L2 es2 ep2 t2 sb2 R2 pm2 => ?_
      exact wpAny_pure (hQ true h2 L2 es2 ep2 t2 (sb.trans sb2) R2 (fun z => absurd z new) fun _ => pm2.trans pm)
    · first
        | refine wp_if_neg (by simp [hf]) ?_
        | (refine wpAny_bind ?_; refine wp_if_neg (by simp [hf]) ?_; refine wpAny_pure ?_)
      refine wpAny_pure (hQ true h1 L1 es1 (ep + 1) t1 sb { ob := ⟨_, ho1, ⟨hex.1, hex.2.1, hex.2.2⟩, rfl⟩, rows := rows1, tab := tab1, nd := nd1, tup := tup1, plain := q7, led := led1, room := ?_ } (fun z => absurd z new) fun _ => pm)
      rw [full] at hf
      rw [len1, q5]
      simpa using hf
end
end DL
end
section
set_option maxRecDepth 100000
set_option maxHeartbeats 4000000
namespace DL
open PySem PySem.Spec PyProof.Rows L2
abbrev nso (w : World) : Obj := { cls := .type "set", dict := none, data := .set #[] 0 (.fresh 0 0 (!w.params.followText "set-order")) }
section
variable {P : Program} {w : World} {A : Around} {E : Value → Shared → Prop} {s : Shared}
theorem SG.kept {h h' : Heap} {a : Addr} {L : List (Addr × List Int)} {es : Array (Int × Value)} {ep : Nat} {t : SetTable} (R : SG P w h a L es ep t) (ka : ∀ o, h.get? a = some o → h'.get? a = some o) (kt : ∀ p ∈ L, IsT P w h' p.2 p.1) : SG P w h' a L es ep t :=
  let ⟨o, ho, r⟩ := R.ob
  { R with ob := ⟨o, ka o ho, r⟩, tup := kt }
theorem sg_new {h : Heap} {a : Addr} (ho : h.get? a = some (nso w)) : SG P w h a [] #[] 0 (.fresh 0 0 (!w.params.followText "set-order")) where
  ob := ⟨_, ho, ⟨rfl, rfl, rfl⟩, rfl⟩
  rows := rfl
  tab := { up := List.Pairwise.nil, nod := rfl, len := rfl, msk := ⟨3, rfl, by show 7 ≤ 8191; decide⟩, big := Nat.le_refl _, low := fun x hx => (nomatch hx), fnd := fun i h j e => by simp at e }
  nd := List.nodup_nil
  tup := fun p hp => nomatch hp
  plain := rfl
  led := by
    show _ ∨ (!w.params.followText "set-order") = true
    cases w.params.followText "set-order" <;> simp
  room := by show 0 * 5 < 7 * 3; decide
theorem fill_loop {I : Addr} {fp wr : List Addr} {G : Array GenState → Array GenState → Prop} {n : Nat} {Pv : Nat → Value → Prop} {St : Nat → Shared → Prop} {R : Result → Shared → Prop} (W : WalksS P w A.in1 I fp wr G n Pv St)
    (S : Addr) (off : S ∉ fp) (ks : List (Addr × List Int)) (hn : n = ks.length) (few : ks.length ≤ 2047) (vals : ∀ i v, Pv i v → ∃ p, ks[i]? = some p ∧ v = .ref p.1) (h0 : Heap) (tup : ∀ p ∈ ks, IsT P w h0 p.2 p.1) (S0 : h0.get? S = none)
    (w0 : ∀ b ∈ wr, h0.get? b = none) (hu : A.in1.units < cLine) (k : Nat) :
    ∀ (i : Nat) (s : Shared), n - i = k → i ≤ n → St i s → (∀ b o, h0.get? b = some o → s.heap.get? b = some o) → (∃ L es ep t, SG P w s.heap S L es ep t ∧ Got ks i L) →
      (∀ s' L es ep t, Moved (S :: wr) G s s' → SG P w s'.heap S L es ep t → Got ks n L → (∀ b o, h0.get? b = some o → s'.heap.get? b = some o) → R (.ok (.ret .none)) s') →
      codeAny (model P w) A (.builtin "set.update.loop" ⟨[.ref S, .ref I], []⟩) R s := by
  have offw : S ∉ wr := fun z => off (W.sub _ z)
  have wider : ∀ b ∈ wr, b ∈ S :: wr := fun b hb => List.mem_cons_of_mem _ hb
  have old : ∀ {s s' : Shared}, Moved wr G s s' → (∀ b o, h0.get? b = some o → s.heap.get? b = some o) → ∀ b o, h0.get? b = some o → s'.heap.get? b = some o := fun m q b o e =>
    m.heap b o (fun z => by rw [w0 b z] at e; cases e) (q b o e)
  induction k with
  | zero =>
    intro i s e le st q ⟨L, es, ep, t, R0, g⟩ fin
    obtain rfl : i = n := by omega
    refine codeAny_builtin F.entry_set_update_loop ?_
    rw [Around.under_plainId F.plain_set_update_loop _]
    refine wpAny_bind (m := pyNext (.ref I)) (W.done s _ _ st fun s' m => ?_)
    have q' := old m q
    have mem : ∀ p ∈ L, p ∈ ks := fun p hp => List.mem_of_mem_take (g.sub p hp)
    show wpAny _ _ (ret Value.none) _ _ _
    exact wpAny_pure (fin s' L es ep t (m.mono wider) (R0.kept (fun o e => m.heap S o offw e) fun p hp => isT_keep (tup p (mem p hp)) q') g q')
  | succ k ih =>
    intro i s e le st q ⟨L, es, ep, t, R0, g⟩ fin
    refine codeAny_builtin F.entry_set_update_loop ?_
    rw [Around.under_plainId F.plain_set_update_loop _]
    refine wpAny_bind (m := pyNext (.ref I)) (W.item i s _ _ (by omega) st fun v s' pv st' m => ?_)
    obtain ⟨p, hp, rfl⟩ := vals i v pv
    have q' := old m q
    have mem : ∀ p ∈ L, p ∈ ks := fun p hp => List.mem_of_mem_take (g.sub p hp)
    have R1 : SG P w s'.heap S L es ep t := R0.kept (fun o e => m.heap S o offw e) fun p hp => isT_keep (tup p (mem p hp)) q'
    have hx : IsT P w s'.heap p.2 p.1 := isT_keep (tup p (List.mem_of_getElem? hp)) q'
    refine wpAny_bind (m := holding [Value.ref p.1] (setAdd S (.ref p.1))) (wpAny_holding ?_)
    unfold setAdd
    refine wpAny_holding (wpAny_bind (wpAny_pyHash_tuple hu hx ?_))
    refine add_more (s := { s' with toks := s'.toks + (p.2.length + 1) }) R1 hx hu (by have := g.len; omega) fun b h' L' es' ep' t' sb R2 c1 c2 => ?_
    have g' : Got ks (i + 1) L' := by
      by_cases c : p.2 ∈ L.map (·.2)
      · rw [c1 c]; exact g.same hp c
      · exact g.more hp (c2 c)
    have q2 : ∀ b o, h0.get? b = some o → h'.get? b = some o := fun b o e => (sb.2 b (fun z => by rw [z, S0] at e; cases e)).trans (q' b o e)
    refine wpAny_pure ⟨plainId_quiet F.plain_set_update_loop _, ih (i + 1) _ (by omega) (by omega) (W.frame _ s' _ _ st' (Nat.le_add_right _ _) fun b hb o e => ?_) q2 ⟨L', es', ep', t', R2, g'⟩ fun s2 L2 es2 ep2 t2 m2 R3 g2 q3 => ?_⟩
    · rw [sb.2 b (fun z => off (by rw [← z]; exact hb))]; exact e
    · refine fin s2 L2 es2 ep2 t2 (Moved.trans W.gtrans ((m.mono wider).then_heap (Nat.le_add_right _ _) fun b o hb e => ?_) m2) R3 g2 q3
      rw [sb.2 b (fun z => hb (by rw [z]; exact List.mem_cons_self))]; exact e
theorem set_of_list {l : Addr} {items : Array Value} (ks : List (Addr × List Int)) {Q : Value → Shared → Prop} (hh : A.handled = none) (hl : s.heap.IsList l items) (hi : items.toList = ks.map fun p => Value.ref p.1)
    (tup : ∀ p ∈ ks, IsT P w s.heap p.2 p.1) (few : ks.length ≤ 2047) (hu : A.units + 3 < cLine)
    (fin : ∀ (h' : Heap) (tk : Nat) L es ep t, SG P w h' s.heap.objs.size L es ep t → Got ks ks.length L → (∀ b o, s.heap.get? b = some o → h'.get? b = some o) → Q (.ref s.heap.objs.size) { s with heap := h', toks := tk }) :
    wpAny (model P w) A (call (.type "set") [.ref l]) Q E s := by
  have isz : items.size = ks.length := by
    have := congrArg List.length hi
    simpa using this
  obtain ⟨c, tl, x1⟩ := F.called_set.mro
  have x2 := F.called_set.made
  have x3 := F.called_set.sub
  refine wpAny_call (codeAny_of_tree ?_)
  show wpAny _ _ (callAny (.type "set") _) _ _ _
  refine wpAny_pure ⟨Code.quiet_builtin _ (by decide +kernel), codeAny_builtin F.entry_type_call ?_⟩
  rw [Around.under_plain (weight_type_call_type "set" [.ref l] []) rfl]
  have x4 := F.called_set.notType
  have x5 := F.called_set.canCreate
  have x6 := F.typeCall_set_1 (.ref l)
  repeat (any_goals (first | assumption | wp_step))
  refine codeAny_mono (code_set_led1 (.ref l) (E := E) (Q₁ := fun u z => u = .ref s.heap.objs.size ∧ z = { s with heap := s.heap.push (nso w) }) ⟨rfl, rfl⟩) fun r z hr => ?_
  match r, hr with
  | .error e, hr => exact hr
  | .ok (.ret u), ⟨e1, e2⟩ =>
    subst e1 e2
    have at_ : (s.heap.push (nso w)).get? s.heap.objs.size = some (nso w) := Heap.get?_push_size _ rfl
    have hT : Shared.TypeIs { s with heap := s.heap.push (nso w) } (.ref s.heap.objs.size) "set" := ⟨_, at_, rfl⟩
    have x7 := F.called_set.init.lookup
    have x8 := F.called_set.init.bind (.ref s.heap.objs.size)
    repeat (any_goals (first | assumption | wp_step))
    refine codeAny_mono (codeAny_call_builtin (R := wants (fun r z => r = .none ∧ ∃ h' tk L es ep t, z = { s with heap := h', toks := tk } ∧ SG P w h' s.heap.objs.size L es ep t ∧ Got ks ks.length L ∧ (∀ b o, s.heap.get? b = some o → h'.get? b = some o)) E)
      F.called_set.init.plain F.entry_set_init (check_set_init_1 hT ?_)) fun r z hr => ?_
    · have hl1 : (s.heap.push (nso w)).IsList l items := hl.push _
      obtain ⟨⟨ocls, odict, odata, oslots⟩, hol, hc, nl, hdl⟩ := hl
      simp only at hc hdl
      subst hc hdl
      have hol' : (s.heap.push (nso w)).get? l = some { cls := .type "list", dict := odict, data := .seq items nl, slots := oslots } := Heap.get?_push_of_some _ hol
      have y1 := F.sub_list_set
      have y2 := F.sub_list_frozenset
      have y3 : (Value.type "list" == Value.type "dict") = false := by decide
      unfold Builtin.«set.__init__» noKeywords Builtin.Frozenset.updateFrom
      obtain ⟨it, hit⟩ : ∃ it, it = pyIter := ⟨_, rfl⟩
      rw [← hit]
      wp_walk
      subst hit
      refine wpAny_pyIter_list hl1 (wpAny_bind (wpAny_runValue ?_))
      have llt : @LT.lt Nat _ l s.heap.objs.size := Heap.lt_size hol
      have sz : (s.heap.push (nso w)).objs.size = s.heap.objs.size + 1 := Heap.size_push ..
      have free : ∀ b, s.heap.objs.size ≤ b → s.heap.get? b = none := fun b hb => by
        cases q : s.heap.get? b with
        | none => rfl
        | some o => exact absurd (Nat.lt_of_lt_of_le (Heap.lt_size q) hb) (Nat.lt_irrefl _)
      refine fill_loop ((Walks.list (A := A.in1.in1.in1) (by simp [hh]) _ l (by rw [sz]; exact Nat.ne_of_lt (Nat.lt_succ_of_lt llt)) items).toS) s.heap.objs.size (by rw [sz]; simp only [List.mem_cons, List.not_mem_nil, or_false, not_or]; exact ⟨Nat.ne_of_lt (Nat.lt_succ_self _), Nat.ne_of_gt llt⟩) ks isz few (fun i v e => ?vals) s.heap tup (free _ (Nat.le_refl _))
        (fun b hb => free _ (by rw [List.mem_singleton.mp hb, sz]; exact Nat.le_succ _)) hu items.size 0 _ rfl (Nat.zero_le _) ⟨⟨_, Heap.get?_push_size _ rfl, rfl, rfl⟩, hl1.push _⟩ (fun b o e => Heap.get?_push_of_some _ (Heap.get?_push_of_some _ e))
        ⟨[], #[], 0, _, sg_new (Heap.get?_push_of_some _ at_), Got.zero ks⟩ fun z L es ep t m R1 g q => ?fin
      case vals =>
        have e : items.toList[i]? = some v := by rw [Array.getElem?_toList]; exact e
        rw [hi, List.getElem?_map] at e
        obtain ⟨p, h1, h2⟩ := Option.map_eq_some_iff.mp e
        exact ⟨p, h1, h2.symm⟩
      case fin =>
        obtain ⟨h', g2, d2, tk, o2⟩ := z
        have eg : g2 = s.gens := m.gens
        have ed : d2 = s.drawn := m.drawn
        have eo : o2 = s.os := m.os
        subst eg ed eo
        show wpAny _ _ _ _ _ _
        rw [isz] at g
        refine wpAny_pure ?_
        show wpAny _ _ (ret Value.none) _ _ _
        exact wpAny_pure ⟨rfl, h', tk, L, es, ep, t, rfl, R1, g, q⟩
    · match r, hr with
      | .error e, hr => exact hr
      | .ok (.ret u), hr =>
        obtain ⟨e1, h', tk, L, es, ep, t, e2, R1, g, q⟩ := hr
        subst e1 e2
        repeat (any_goals (first | assumption | wp_step))
        exact fin _ _ _ _ _ _ R1 g q
theorem set_of_tuple {l : Addr} {items : Array Value} (ks : List (Addr × List Int)) {Q : Value → Shared → Prop} (hh : A.handled = none) (hl : s.heap.IsTuple l items) (hi : items.toList = ks.map fun p => Value.ref p.1)
    (tup : ∀ p ∈ ks, IsT P w s.heap p.2 p.1) (few : ks.length ≤ 2047) (hu : A.units + 3 < cLine)
    (fin : ∀ (h' : Heap) (tk : Nat) L es ep t, SG P w h' s.heap.objs.size L es ep t → Got ks ks.length L → (∀ b o, s.heap.get? b = some o → h'.get? b = some o) → Q (.ref s.heap.objs.size) { s with heap := h', toks := tk }) :
    wpAny (model P w) A (call (.type "set") [.ref l]) Q E s := by
  have isz : items.size = ks.length := by
    have := congrArg List.length hi
    simpa using this
  obtain ⟨c, tl, x1⟩ := F.called_set.mro
  have x2 := F.called_set.made
  have x3 := F.called_set.sub
  refine wpAny_call (codeAny_of_tree ?_)
  show wpAny _ _ (callAny (.type "set") _) _ _ _
  refine wpAny_pure ⟨Code.quiet_builtin _ (by decide +kernel), codeAny_builtin F.entry_type_call ?_⟩
  rw [Around.under_plain (weight_type_call_type "set" [.ref l] []) rfl]
  have x4 := F.called_set.notType
  have x5 := F.called_set.canCreate
  have x6 := F.typeCall_set_1 (.ref l)
  repeat (any_goals (first | assumption | wp_step))
  refine codeAny_mono (code_set_led1 (.ref l) (E := E) (Q₁ := fun u z => u = .ref s.heap.objs.size ∧ z = { s with heap := s.heap.push (nso w) }) ⟨rfl, rfl⟩) fun r z hr => ?_
  match r, hr with
  | .error e, hr => exact hr
  | .ok (.ret u), ⟨e1, e2⟩ =>
    subst e1 e2
    have at_ : (s.heap.push (nso w)).get? s.heap.objs.size = some (nso w) := Heap.get?_push_size _ rfl
    have hT : Shared.TypeIs { s with heap := s.heap.push (nso w) } (.ref s.heap.objs.size) "set" := ⟨_, at_, rfl⟩
    have x7 := F.called_set.init.lookup
    have x8 := F.called_set.init.bind (.ref s.heap.objs.size)
    repeat (any_goals (first | assumption | wp_step))
    refine codeAny_mono (codeAny_call_builtin (R := wants (fun r z => r = .none ∧ ∃ h' tk L es ep t, z = { s with heap := h', toks := tk } ∧ SG P w h' s.heap.objs.size L es ep t ∧ Got ks ks.length L ∧ (∀ b o, s.heap.get? b = some o → h'.get? b = some o)) E)
      F.called_set.init.plain F.entry_set_init (check_set_init_1 hT ?_)) fun r z hr => ?_
    · have hl1 : (s.heap.push (nso w)).IsTuple l items := hl.push _
      obtain ⟨⟨ocls, odict, odata, oslots⟩, hol, hc, nl, hdl⟩ := hl
      simp only at hc hdl
      subst hc hdl
      have hol' : (s.heap.push (nso w)).get? l = some { cls := .type "tuple", dict := odict, data := .seq items nl, slots := oslots } := Heap.get?_push_of_some _ hol
      have y1 := F.sub_tuple_set
      have y2 := F.sub_tuple_frozenset
      have y3 : (Value.type "tuple" == Value.type "dict") = false := by decide
      unfold Builtin.«set.__init__» noKeywords Builtin.Frozenset.updateFrom
      obtain ⟨it, hit⟩ : ∃ it, it = pyIter := ⟨_, rfl⟩
      rw [← hit]
      wp_walk
      subst hit
      refine wpAny_pyIter_tuple hl1 (wpAny_bind (wpAny_runValue ?_))
      have llt : @LT.lt Nat _ l s.heap.objs.size := Heap.lt_size hol
      have sz : (s.heap.push (nso w)).objs.size = s.heap.objs.size + 1 := Heap.size_push ..
      have free : ∀ b, s.heap.objs.size ≤ b → s.heap.get? b = none := fun b hb => by
        cases q : s.heap.get? b with
        | none => rfl
        | some o => exact absurd (Nat.lt_of_lt_of_le (Heap.lt_size q) hb) (Nat.lt_irrefl _)
      refine fill_loop ((Walks.tuple (A := A.in1.in1.in1) (by simp [hh]) _ l (by rw [sz]; exact Nat.ne_of_lt (Nat.lt_succ_of_lt llt)) items).toS) s.heap.objs.size (by rw [sz]; simp only [List.mem_cons, List.not_mem_nil, or_false, not_or]; exact ⟨Nat.ne_of_lt (Nat.lt_succ_self _), Nat.ne_of_gt llt⟩) ks isz few (fun i v e => ?vals) s.heap tup (free _ (Nat.le_refl _))
        (fun b hb => free _ (by rw [List.mem_singleton.mp hb, sz]; exact Nat.le_succ _)) hu items.size 0 _ rfl (Nat.zero_le _) ⟨⟨_, Heap.get?_push_size _ rfl, rfl, rfl⟩, hl1.push _⟩ (fun b o e => Heap.get?_push_of_some _ (Heap.get?_push_of_some _ e))
        ⟨[], #[], 0, _, sg_new (Heap.get?_push_of_some _ at_), Got.zero ks⟩ fun z L es ep t m R1 g q => ?fin
      case vals =>
        have e : items.toList[i]? = some v := by rw [Array.getElem?_toList]; exact e
        rw [hi, List.getElem?_map] at e
        obtain ⟨p, h1, h2⟩ := Option.map_eq_some_iff.mp e
        exact ⟨p, h1, h2.symm⟩
      case fin =>
        obtain ⟨h', g2, d2, tk, o2⟩ := z
        have eg : g2 = s.gens := m.gens
        have ed : d2 = s.drawn := m.drawn
        have eo : o2 = s.os := m.os
        subst eg ed eo
        show wpAny _ _ _ _ _ _
        rw [isz] at g
        refine wpAny_pure ?_
        show wpAny _ _ (ret Value.none) _ _ _
        exact wpAny_pure ⟨rfl, h', tk, L, es, ep, t, rfl, R1, g, q⟩
    · match r, hr with
      | .error e, hr => exact hr
      | .ok (.ret u), hr =>
        obtain ⟨e1, h', tk, L, es, ep, t, e2, R1, g, q⟩ := hr
        subst e1 e2
        repeat (any_goals (first | assumption | wp_step))
        exact fin _ _ _ _ _ _ R1 g q
end
end DL
end
section
set_option maxRecDepth 100000
set_option maxHeartbeats 4000000
namespace DL
open PySem PySem.Spec PyProof.Rows L2
def prI (k : List Int) : Int × Int := (k.getD 0 0, k.getD 1 0)
theorem isPair_uniq {h : Heap} {v : Value} {x y x' y' : Int} (a : Srt.IsPair h v x y) (b : Srt.IsPair h v x' y') : (x, y) = (x', y') := by
  obtain ⟨b1, o, t, u, n, e, ho, hc, hd⟩ := a
  obtain ⟨b2, o2, t2, u2, n2, e2, ho2, hc2, hd2⟩ := b
  rw [e] at e2
  cases e2
  rw [ho] at ho2
  cases ho2
  rw [hd] at hd2
  cases hd2
  rfl
open Classical in
noncomputable def pairAt (h : Heap) (v : Value) : Int × Int := if q : ∃ p : Int × Int, Srt.IsPair h v p.1 p.2 then Classical.choose q else (0, 0)
theorem pairAt_eq {h : Heap} {v : Value} {x y : Int} (p : Srt.IsPair h v x y) : pairAt h v = (x, y) := by
  have q : ∃ p : Int × Int, Srt.IsPair h v p.1 p.2 := ⟨(x, y), p⟩
  unfold pairAt
  rw [dif_pos q]
  exact isPair_uniq (Classical.choose_spec q) p
theorem isPair_of {P : Program} {w : World} {h : Heap} {k : List Int} {b : Addr} (x : IsT P w h k b) (l : k.length = 2) : Srt.IsPair h (.ref b) (prI k).1 (prI k).2 := by
  match k, l with
  | [i, j], _ =>
    obtain ⟨o, items, n, ho, hc, hd, hi⟩ := x
    cases hi' : items.toList with
    | nil => rw [hi'] at hi; cases hi
    | cons u us =>
      rw [hi'] at hi
      cases hi with
      | cons h1 h2 =>
        cases h2 with
        | cons h3 h4 =>
          cases h4
          rename_i u2
          obtain ⟨t1, rfl⟩ := Value.isInt_shape h1
          obtain ⟨t2, rfl⟩ := Value.isInt_shape h3
          refine ⟨b, o, t1, t2, n, rfl, ho, hc, ?_⟩
          rw [hd]
          have : items = #[.int i t1, .int j t2] := by
            apply Array.ext'
            exact hi'
          rw [this]
          rfl
section
variable {P : Program} {w : World} {A : Around} {E : Value → Shared → Prop} {s : Shared}
theorem refs_pull {L : List (Addr × List Int)} : ∀ {vs : List Value}, (∀ v ∈ vs, ∃ q ∈ L, v = Value.ref q.1) → ∃ L1 : List (Addr × List Int), vs = L1.map (fun q => Value.ref q.1) ∧ ∀ q ∈ L1, q ∈ L
  | [], _ => ⟨[], rfl, fun q hq => nomatch hq⟩
  | v :: vs, h => by
    obtain ⟨q, hq, rfl⟩ := h v List.mem_cons_self
    obtain ⟨L1, rfl, h2⟩ := refs_pull (vs := vs) fun u hu => h u (List.mem_cons_of_mem _ hu)
    exact ⟨q :: L1, rfl, fun r hr => (List.mem_cons.mp hr).elim (fun e => by rw [e]; exact hq) (h2 r)⟩
theorem sorted_SG {a : Addr} {L : List (Addr × List Int)} {es : Array (Int × Value)} {ep : Nat} {t : SetTable} {Q : Value → Shared → Prop} (R : SG P w s.heap a L es ep t) (hh : A.handled = none) (two : ∀ p ∈ L, p.2.length = 2)
    (few : L.length ≤ 2047) (fin : ∀ s' p (out : Array Value) (c : Nat) (L' : List (Addr × List Int)), (∀ b o, s.heap.get? b = some o → s'.heap.get? b = some o) → s'.gens = s.gens → s'.os = s.os → s.heap.objs.size ≤ p →
      s'.heap.get? p = some (seqObj "list" out c) → out.toList = L'.map (fun q => Value.ref q.1) → L'.Perm L → L'.Pairwise (fun q r => SrtO.lexB (prI r.2) (prI q.2) = false) → Q (.ref p) s') :
    wpAny (model P w) A (call (.builtin "sorted") [.ref a]) Q E s := by
  obtain ⟨o, ho, hex, hd⟩ := R.ob
  have sz := rows_len R.rows
  refine Calls.call_function_entry kind_sorted plain_sorted entry_sorted (args_sorted1 _) ?_
  unfold Builtin.«sorted»
  refine wpAny_bind (m := checkCount "sorted" 1 1 _) (wpAny_pure ?_)
  refine wpAny_bind (collect_set (A := A.in1) hh ⟨o, ho, hex.1, hd⟩ R.fits (by unfold scanBound; omega) R.tab.up R.led fun s1 vs k1 hz g1 o1 pm => ?_)
  have es_ : es.toList.map (·.2) = L.map fun q => Value.ref q.1 := by
    rw [R.rows]
    unfold rowsOf
    rw [List.map_map]
    rfl
  rw [es_] at pm
  have one : ∀ q ∈ L, ∀ r ∈ L, q.1 = r.1 → q = r := fun q hq r hr e => by
    have a1 := R.tup q hq
    rw [e] at a1
    exact Prod.ext e (a1.inj (R.tup r hr))
  have len : vs.length ≤ 2047 := by rw [pm.length_eq, List.length_map]; exact few
  have szl : vs.length ≤ sizeLine := by rw [sizeLine_eq]; omega
  refine wpAny_bind (wpAny_newList ?_ szl)
  have at_ : (s1.heap.push (seqObj "list" vs.toArray 0)).get? s1.heap.objs.size = some (seqObj "list" vs.toArray 0) := Heap.get?_push_size _ rfl
  have pr : ∀ q ∈ L, Srt.IsPair (s1.heap.push (seqObj "list" vs.toArray 0)) (.ref q.1) (prI q.2).1 (prI q.2).2 := fun q hq => isPair_of (isT_keep (R.tup q hq) fun b u e => Heap.get?_push_of_some _ (k1 b u e)) (two q hq)
  obtain ⟨H1, eH⟩ : ∃ H1, s1.heap.push (seqObj "list" vs.toArray 0) = H1 := ⟨_, rfl⟩
  rw [eH] at at_ pr
  have prv : ∀ v ∈ vs, Srt.IsPair H1 v (pairAt H1 v).1 (pairAt H1 v).2 := fun v hv => by
    obtain ⟨q, hq, rfl⟩ := List.mem_map.mp (pm.mem_iff.mp hv)
    rw [pairAt_eq (pr q hq)]
    exact pr q hq
  refine wpAny_bind (wpAny_holding ?_)
  show wpAny _ _ _ _ _ { s1 with heap := s1.heap.push (seqObj "list" vs.toArray 0) }
  rw [eH]
  refine wpAny_call_entry slot_list_sort ⟨_, at_, rfl⟩ entry_list_sort (SrtO.list_sort_ord (s := { s1 with heap := H1 }) (SrtO.swo_lex (pairAt H1)) at_ szl (fun h2 => SrtO.pairs_sortableO (by omega) prv fun o e c => ?_) fun out hs hb => ⟨_, rfl, ?_⟩) (args_list_sort _)
  · have e' : some o = some (seqObj "list" vs.toArray 0) := e.symm.trans at_
    cases e'
    exact absurd (Value.type.inj c) (by decide)
  · obtain ⟨c, hc⟩ := sortedHeap_at (vs := vs) (out := out.toArray) at_
    obtain ⟨L', e', sub⟩ := refs_pull (L := L) (vs := out) fun v hv => by
      obtain ⟨q, hq, e⟩ := List.mem_map.mp (pm.mem_iff.mp (hb.perm.mem_iff.mp hv))
      exact ⟨q, hq, e.symm⟩
    have p1 : (L'.map fun q => Value.ref q.1).Perm (L.map fun q => Value.ref q.1) := by rw [← e']; exact hb.perm.trans pm
    have nL : L.Nodup := nodup_of_map R.nd
    have nr : (L.map fun q => Value.ref q.1).Nodup := by
      refine List.pairwise_map.mpr (List.Pairwise.imp_of_mem (fun {q r} hq hr ne e => ?_) nL)
      exact ne (one q hq r hr (by injection e))
    have pL : L'.Perm L := by
      refine (List.perm_ext_iff_of_nodup (nodup_of_map (p1.nodup_iff.mpr nr)) nL).mpr fun q => ⟨sub q, fun hq => ?_⟩
      obtain ⟨r, hr, e⟩ := List.mem_map.mp (p1.mem_iff.mpr (List.mem_map.mpr ⟨q, hq, rfl⟩))
      rw [← one r (sub r hr) q hq (by injection e)]
      exact hr
    refine wpAny_pure ⟨_, rfl, fin _ s1.heap.objs.size out.toArray c L' (fun b u e => ?_) g1 o1 hz hc (by simpa using e') pL ?_⟩
    · have q := k1 b u e
      have lt := Heap.lt_size q
      show (sortedHeap H1 s1.heap.objs.size vs out.toArray).get? b = some u
      rw [sortedHeap_old (Nat.ne_of_lt lt) (by rw [← eH, size_push']; exact Nat.lt_succ_of_lt lt), ← eH]
      exact Heap.get?_push_of_some _ q
    · have hs : out.Pairwise (fun u v => SrtO.lexB (pairAt H1 v) (pairAt H1 u) = false) := hs
      rw [e'] at hs
      refine List.Pairwise.imp_of_mem (fun {q r} hq hr z => ?_) (List.pairwise_map.mp hs)
      rw [pairAt_eq (pr q (sub q hq)), pairAt_eq (pr r (sub r hr))] at z
      exact z
end
end DL
end
section
set_option maxRecDepth 100000
set_option maxHeartbeats 4000000
namespace DL
open PySem PySem.Spec PyProof.Rows L2
abbrev Vec := Int × Int
def vD (v : Vec) : D := .tuple [.int v.1, .int v.2]
def vLt (u v : Vec) : Prop := u.1 < v.1 ∨ (u.1 = v.1 ∧ u.2 < v.2)
section
variable {X : Cx}
def refsV (ks : List (Addr × List Int)) : List V := ks.map fun p => V.ref p.1
def tSS (K : PySem.W.Frag) (ta : TE) : TE := fun σ H Q => ta σ H fun x H1 => ∃ (l : Addr) (ks : List (Addr × List Int)), x = V.ref l ∧ (SqL K H1 l (refsV ks) ∨ SqT K H1 l (refsV ks)) ∧ (∀ p ∈ ks, SqT K H1 p.1 (p.2.map V.int) ∧ p.2.length = 2) ∧ ks.length ≤ 2047 ∧
  ∀ (L : List (Addr × List Int)) (p : Addr), (∀ q ∈ L, q ∈ ks) → (∀ q ∈ ks, q.2 ∈ L.map (·.2)) → (L.map (·.2)).Nodup → L.Pairwise (fun q r => SrtO.lexB (prI r.2) (prI q.2) = false) → H1 p = none → Q (.ref p) (upd H1 p (.lst (refsV L)))
theorem pe_sset {a : Expr} {ta : TE} {p p2 q pos : Pos} (hc : X.calm = true) (hu : X.A.units + 64 < cLine) (hg : Gl X "sorted") (hm : X.mg "sorted" = none) (hg2 : Gl X "set") (hm2 : X.mg "set" = none) (ha : PE X a ta)
    (na : starEach [a] X.env = (false, eval a X.env) :: starEach [] X.env := by rfl) : PE X (.Call (.Name "sorted" p) [.Call (.Name "set" p2) [a] [] q] [] pos) (tSS X.K ta) := by
  refine ⟨fun pins s σ H Q I h => ?_⟩
  refine Call_ (ld_blt I hg hm PyProof.Rows.boot_sorted ?_)
  refine PyProof.Rows.callWith_builtin1 (PyProof.Rows.args_cons ?_ rfl) rfl rfl
  refine Call_ (ld_blt I hg2 hm2 PyProof.Rows.boot_set ?_)
  refine PyProof.Rows.callWith_type1 (PyProof.Rows.args_cons (thn (ha.run pins s σ H _ I h) fun v s1 ⟨x, H1, I1, r1, q1⟩ => PyProof.Rows.args_nil ?_) na) na rfl
  obtain ⟨l, ks, rfl, hq, hk, few, q1⟩ := q1
  cases r1
  have tup : ∀ p ∈ ks, IsT X.prog X.w s1.heap p.2 p.1 := fun p hp => I1.isT (hk p hp).1
  suffices fin : ∀ (s2 : Shared) (n : Addr) L es ep t, Inv X pins σ H1 s2 → SG X.prog X.w s2.heap n L es ep t → Got ks ks.length L → wpAny (model X.prog X.w) X.A (call (.builtin "sorted") [.ref n]) (EP X pins σ Q) X.xe s2 by
    rcases hq with hq | hq
    · obtain ⟨its, rv, pl, hz⟩ := I1.list hq
      exact set_of_list (P := X.prog) (w := X.w) ks (I1.ok.hd hc) pl.isList (by simpa using refs_of_vals rv) tup few (by omega) fun h' tk L es ep t R g k => PyProof.Rows.args_nil (fin _ _ L es ep t (I1.kept k) R g)
    · obtain ⟨its, rv, pl, hz⟩ := I1.tuple hq
      exact set_of_tuple (P := X.prog) (w := X.w) ks (I1.ok.hd hc) pl (by simpa using refs_of_vals rv) tup few (by omega) fun h' tk L es ep t R g k => PyProof.Rows.args_nil (fin _ _ L es ep t (I1.kept k) R g)
  intro s2 n L es ep t I2 R g
  have sub : ∀ p ∈ L, p ∈ ks := fun p hp => List.mem_of_mem_take (g.sub p hp)
  refine sorted_SG R (I2.ok.hd hc) (fun p hp => (hk p (sub p hp)).2) (Nat.le_trans g.len few) fun s' p out c L' k2 g2 o2 hp hg hout pm pw => ?_
  have len : (refsV L').length ≤ sizeLine := by
    have := g.len
    show (L'.map fun p => V.ref p.1).length ≤ _
    rw [List.length_map, pm.length_eq, sizeLine_eq]
    omega
  have hn : H1 p = none := I2.hok.fresh hp
  have J : Inv X pins σ (upd H1 p (.lst (refsV L'))) { s2 with heap := s'.heap, gens := s'.gens, drawn := s'.drawn, toks := s'.toks } :=
    I2.call (ch := []) (Un.laid k2 hp hn) (I2.hok.laid k2 hp ⟨len, out.toList, c, by rw [hout]; exact vals_of_refs L', hg⟩) (by rw [g2]; exact I2.bare) (fun _ z => nomatch z)
  have e : s' = { s2 with heap := s'.heap, gens := s'.gens, drawn := s'.drawn, toks := s'.toks } := by
    cases s'
    cases s2
    cases o2
    rfl
  rw [e]
  refine ⟨.ref p, _, J, rfl, q1 L' p (fun q hq => sub q (pm.mem_iff.mp hq)) (fun q hq => ?_) ((pm.map (·.2)).nodup_iff.mpr R.nd) pw hn⟩
  rw [(pm.map (·.2)).mem_iff]
  exact g.all q (by rw [List.take_length]; exact hq)
end
theorem vs_keys {K : PySem.W.Frag} {F : Hp} : ∀ {vs : List Vec} {xs : List V}, DqAll K F xs (vs.map vD) → ∃ ks : List (Addr × List Int), xs = refsV ks ∧ (∀ p ∈ ks, SqT K F p.1 (p.2.map V.int) ∧ p.2.length = 2) ∧ ks.map (fun p => prI p.2) = vs
  | [], _, h => by cases h; exact ⟨[], rfl, fun p hp => (nomatch hp), rfl⟩
  | v :: vs, _, h => by
    cases h with
    | cons h1 h2 =>
      obtain ⟨ks, e, a, b⟩ := vs_keys h2
      subst e
      cases h1 with
      | tup h1 hn h3 =>
        rename_i t xs
        cases h3 with
        | cons h4 h5 =>
          cases h5 with
          | cons h5 h6 =>
            cases h6
            cases h4
            cases h5
            refine ⟨(t, [v.1, v.2]) :: ks, rfl, fun p hp => ?_, by rw [List.map_cons, b]; rfl⟩
            rcases List.mem_cons.mp hp with rfl | hp
            · exact ⟨h1, rfl⟩
            · exact a p hp
theorem prI_inj {k l : List Int} (hk : k.length = 2) (hl : l.length = 2) (e : prI k = prI l) : k = l := by
  match k, l, hk, hl with
  | [a, b], [c, d], _, _ =>
    have e1 : a = c := congrArg Prod.fst e
    have e2 : b = d := congrArg Prod.snd e
    rw [e1, e2]
theorem keys_vs {K : PySem.W.Frag} {F : Hp} : ∀ {ks : List (Addr × List Int)}, (∀ p ∈ ks, SqT K F p.1 (p.2.map V.int) ∧ p.2.length = 2) → DqAll K F (refsV ks) ((ks.map fun p => prI p.2).map vD)
  | [], _ => .nil
  | (a, k) :: ks, h => by
    obtain ⟨h1, h2⟩ := h (a, k) List.mem_cons_self
    match k, h2 with
    | [i, j], _ => exact .cons (.tup h1 (fun z => by cases z) (.cons (.int i) (.cons (.int j) .nil))) (keys_vs fun p hp => h p (List.mem_cons_of_mem _ hp))
theorem sset_out {ks L : List (Addr × List Int)} {vs : List Vec} (two : ∀ p ∈ ks, p.2.length = 2) (e : ks.map (fun p => prI p.2) = vs) (sub : ∀ q ∈ L, q ∈ ks) (all : ∀ q ∈ ks, q.2 ∈ L.map (·.2)) (nd : (L.map (·.2)).Nodup)
    (pw : L.Pairwise (fun q r => SrtO.lexB (prI r.2) (prI q.2) = false)) : (L.map fun p => prI p.2).Pairwise vLt ∧ ∀ v, v ∈ (L.map fun p => prI p.2) ↔ v ∈ vs := by
  constructor
  · rw [List.pairwise_map]
    have nd2 : L.Pairwise (fun q r => q.2 ≠ r.2) := List.pairwise_map.mp nd
    refine List.Pairwise.imp_of_mem (fun {q r} hq hr h => ?_) (pw.and nd2)
    obtain ⟨h1, h2⟩ := h
    have ne : prI q.2 ≠ prI r.2 := fun z => h2 (prI_inj (two q (sub q hq)) (two r (sub r hr)) z)
    have h1 := SrtO.lexB_no.mp h1
    have ne2 : ¬ ((prI q.2).1 = (prI r.2).1 ∧ (prI q.2).2 = (prI r.2).2) := fun z => ne (Prod.ext z.1 z.2)
    unfold vLt
    omega
  · intro v
    rw [← e]
    constructor
    · intro h
      obtain ⟨q, hq, rfl⟩ := List.mem_map.mp h
      exact List.mem_map.mpr ⟨q, sub q hq, rfl⟩
    · intro h
      obtain ⟨q, hq, rfl⟩ := List.mem_map.mp h
      obtain ⟨r, hr, e2⟩ := List.mem_map.mp (all q hq)
      exact List.mem_map.mpr ⟨r, hr, by rw [e2]⟩
end DL
end
section
set_option maxRecDepth 100000
set_option maxHeartbeats 4000000
namespace DL
open PySem PySem.Spec PyProof.Rows L2
section
variable {prog : Program} {w : World} {A : Around} {E : Value → Shared → Prop} {s : Shared}
theorem adjust_rev (n : Nat) : Builtin.Slice.sliceAdjust none none (-1) (n : Int) = ((n : Int) - 1, -1) := by
  unfold Builtin.Slice.sliceAdjust
  simp
theorem places_rev (n : Nat) : Builtin.Slice.slicePlaces ((n : Int) - 1) (-1) (-1) = n := by
  unfold Builtin.Slice.slicePlaces
  have h1 : ¬ ((-1 : Int) > 0) := by decide
  have e : ((n : Int) - 1 - -1 - 1) / (- -1) = (n : Int) - 1 := by
    rw [show (- -1 : Int) = 1 by decide, Int.ediv_one]
    omega
  simp only [h1, if_false, e]
  split <;> omega
theorem sliceApplied_rev {sl : Addr} {vs : Value} {n : Nat} {Q : Int × Int × Nat → Shared → Prop} (hs : s.heap.IsSliceOf sl .none .none vs) (ps : IsPart vs (some (-1))) (h : Q ((n : Int) - 1, -1, n) s) :
    wpAny (model prog w) A (Builtin.Slice.sliceApplied (.ref sl) (pure (n : Int))) Q E s := by
  obtain ⟨os, hos, hcs, hds⟩ := id hs
  unfold Builtin.Slice.sliceApplied Builtin.Slice.sliceFields
  refine wpAny_bind (wpAny_bind (wpAny_field hos hds (x := .none) rfl (wpAny_bind (wpAny_field hos hds (x := .none) rfl (wpAny_bind (wpAny_field hos hds (x := vs) rfl (wpAny_pure ?_)))))))
  refine wpAny_bind (HT.slicePart_ ps ?_)
  show wpAny _ _ (if ((-1 : Int) == 0) = true then _ else _) _ _ s
  rw [if_neg (by decide)]
  refine wpAny_bind (slicePart_none (wpAny_bind (slicePart_none (wpAny_bind (wpAny_pure ?_)))))
  show wpAny _ _ (match Builtin.Slice.sliceAdjust none none (-1) (n : Int) with | (lo, hi) => pure (lo, (-1 : Int), Builtin.Slice.slicePlaces lo hi (-1))) _ _ s
  rw [adjust_rev]
  show wpAny _ _ (pure ((n : Int) - 1, (-1 : Int), Builtin.Slice.slicePlaces ((n : Int) - 1) (-1) (-1))) _ _ s
  rw [places_rev]
  exact wpAny_pure h
theorem pick_rev (xs : Array Value) : ((List.range xs.size).filterMap fun (m : Nat) => xs[(((xs.size : Int) - 1) + (m : Int) * -1).toNat]?).toArray = xs.toList.reverse.toArray := by
  have e : (fun (m : Nat) => xs[(((xs.size : Int) - 1) + (m : Int) * -1).toNat]?) = (fun k => xs[k]?) ∘ fun k => xs.size - 1 - k := by
    funext m
    show xs[(((xs.size : Int) - 1) + (m : Int) * -1).toNat]? = xs[xs.size - 1 - m]?
    rw [show (((xs.size : Int) - 1) + (m : Int) * -1).toNat = xs.size - 1 - m by omega]
  rw [e, ← List.filterMap_map, PySem.W.krv_range, List.filterMap_reverse, PySem.W.krv_all]
theorem getItem_tuple_rev {t sl : Addr} {items : Array Value} {vs : Value} {Q : Value → Shared → Prop} (ht : IsTup s.heap t items) (hs : s.heap.IsSliceOf sl .none .none vs) (ps : IsPart vs (some (-1)))
    (h : Q (.ref s.heap.objs.size) { s with heap := s.heap.push { cls := .type "tuple", data := .seq items.toList.reverse.toArray } })
    (hsz : items.size ≤ sizeLine) : wpAny (model prog w) A (getItem (.ref t) (.ref sl)) Q E s := by
  have htake : sizeOk (.seq items.toList.reverse.toArray) := by
    show items.toList.reverse.toArray.size ≤ sizeLine
    rw [List.size_toArray, List.length_reverse, Array.length_toList]
    exact hsz
  obtain ⟨os, hos, hcs, hds⟩ := id hs
  have hTs : s.TypeIs (.ref sl) "slice" := ⟨os, hos, hcs⟩
  unfold getItem
  try with_reducible refine wpAny_holding ?_
  first | refine wpAny_bind (wpAny_pure ?_) | skip
  refine wpAny_bind (wpAny_sequenceKey ht.typeIs (by decide) ?_)
  refine wpAny_bind (wpAny_callSpecial?_slot (name := Str.ofString "__getitem__") ht.typeIs PyProof.Rows.slot_tuple_getitem
    (wpAny_call_entry PyProof.Rows.slot_tuple_getitem ht.typeIs entry_tuple_getitem ?_ (args_tuple_getitem _ _)))
  show wpAny _ _ (Builtin.Tuple.tupleItemsOf (.ref t) >>= _) _ _ s
  refine wpAny_bind (tupleItemsOf_ ht ?_)
  refine wpAny_bind (wpAny_typeOf hTs ?_)
  rw [if_pos (by decide)]
  refine wpAny_bind (sliceApplied_rev hs ps ?_)
  have hno : ¬ ((((items.size : Int) - 1) == 0 && (-1 : Int) == 1 && items.size == items.size) = true) := by
    intro q
    rw [Bool.and_eq_true, Bool.and_eq_true] at q
    exact absurd q.1.2 (by decide)
  show wpAny _ _ (if (((items.size : Int) - 1) == 0 && (-1 : Int) == 1 && items.size == items.size) = true then _ else _) _ _ s
  rw [if_neg hno, pick_rev]
  first
    | exact wpAny_bind (m := Builtin.Tuple.tupleExact _) (wpAny_newObj_type (wpAny_pure ⟨_, rfl, wpAny_pure h⟩) htake)
    | exact wpAny_bind (m := Builtin.Tuple.tupleExact _) (wpAny_newObj_type (wpAny_bind (wpAny_pure (wpAny_pure ⟨_, rfl, wpAny_pure h⟩))) htake)
    | exact wpAny_bind (wpAny_bind (m := Builtin.Tuple.tupleExact _) (wpAny_newObj_type (wpAny_pure (wpAny_pure ⟨_, rfl, wpAny_pure h⟩)) htake))
    | exact wpAny_bind (wpAny_bind (m := Builtin.Tuple.tupleExact _) (wpAny_newObj_type (wpAny_pure ⟨_, rfl, wpAny_pure h⟩) htake))
end
section
variable {X : Cx}
theorem nn_part {v : Value} (h : IsPart v none) : v = .none := by cases h; rfl
def tRevT (K : PySem.W.Frag) (te : TE) : TE := fun σ H Q => te σ H fun x H1 => ∃ a xs, x = .ref a ∧ ((SqL K H1 a xs ∧ ∀ p, H1 p = none → Q (.ref p) (upd H1 p (.lst xs.reverse))) ∨ (SqT K H1 a xs ∧ NewT xs.reverse H1 Q))
theorem pe_revT {e : Expr} {te : TE} {k : Nat} {p1 p2 p3 pos : Pos} (he : PE X e te) : PE X (.Subscript e (.Slice none none (some (.UnaryOp .USub (.Constant (.int 1) k p1) p2)) p3) pos) (tRevT X.K te) := by
  refine ⟨fun pins s σ H Q I h => ?_⟩
  refine Subscript_ (thn (he.run pins s σ H _ I h) fun v s1 ⟨x, H1, I1, r1, q1⟩ => ?_)
  obtain ⟨a, xs, ex, q⟩ := q1
  subst ex
  cases r1
  have hst : PO X (some (.UnaryOp .USub (.Constant (.int 1) k p1) p2)) (tPart (tUn (rU fun i => .int (-i)) (tC (.int 1)))) := po_some (pe_un un_neg pe_int)
  refine wpAny_Slice (thn (po_none.run pins s1 σ H1 (fun o H2 => o = none ∧ H2 = H1) I1 ⟨rfl, rfl⟩) fun vl s2 ⟨l, H2, I2, pl, el, e2⟩ => ?_)
  subst el e2
  refine thn (po_none.run pins s2 σ H2 (fun o H3 => o = none ∧ H3 = H2) I2 ⟨rfl, rfl⟩) fun vu s3 ⟨u, H3, I3, pu, eu, e3⟩ => ?_
  subst eu e3
  refine thn (hst.run pins s3 σ H3 (fun o H4 => o = some (-1) ∧ H4 = H3) I3 ⟨1, rfl, -1, rfl, rfl, rfl⟩) fun vs s4 ⟨o, H4, I4, ps, eo, e4⟩ => ?_
  subst eo e4
  have I5 : Inv X pins σ H4 { s4 with heap := s4.heap.push { cls := .type "slice", data := .fields #[vl, vu, vs] } } := I4.kept (t' := s4.toks) fun b ob q => Heap.get?_push_of_some _ q
  show wpAny (model X.prog X.w) X.A (subscriptTail e (.Slice none none (some (.UnaryOp .USub (.Constant (.int 1) k p1) p2)) p3) (.ref a) (.ref s4.heap.objs.size)) (EP X pins σ Q) X.xe { s4 with heap := s4.heap.push { cls := .type "slice", data := .fields #[vl, vu, vs] } }
  rcases q with ⟨hx, q⟩ | ⟨hx, q⟩
  · obtain ⟨its, r, ht, hz⟩ := I5.list hx
    have hlen := r.length
    refine tail_any (ops := [.ref a, .ref s4.heap.objs.size]) ht.isList.typeIs (PySem.slot_list_getitem.lookup) ?_ (by with_unfolding_all rfl)
    refine wpAny_getItem_list_slice ht.isList (Heap.IsSliceOf.new _ vl vu vs) pl pu ps (by decide) ?_ (by rw [List.size_toArray]; omega)
    rw [PySem.W.krv_pick]
    refine ⟨.ref _, _, I5.laid (t' := s4.toks) (o := .lst xs.reverse) (fun b ob q => Heap.get?_push_of_some _ q) (Nat.le_refl _) ?_, rfl, q _ (I5.hok.fresh (Nat.le_refl _))⟩
    exact ⟨by rw [List.length_reverse]; exact hz, _, 0, r.reverse, Heap.get?_push_size _ rfl⟩
  · obtain ⟨its, r, ht, hz⟩ := I5.tuple hx
    have hlen := r.length
    rw [nn_part pl, nn_part pu] at *
    refine tail_any (ops := [.ref a, .ref s4.heap.objs.size]) ht.typeIs (PyProof.Rows.slot_tuple_getitem.lookup) ?_ (by with_unfolding_all rfl)
    refine getItem_tuple_rev ht (Heap.IsSliceOf.new _ _ _ vs) ps ?_ (by rw [List.size_toArray]; omega)
    exact newT_at (s := { s4 with heap := s4.heap.push { cls := .type "slice", data := .fields #[.none, .none, vs] } }) (tk := s4.toks) I5 r.reverse (by rw [List.length_reverse]; exact hz) (fun b ob q => Heap.get?_push_of_some _ q) (Nat.le_refl _) (Heap.get?_push_size _ rfl) q
end
theorem fm_congr {α β : Type} {f g : α → Option β} : ∀ {l : List α}, (∀ x ∈ l, f x = g x) → l.filterMap f = l.filterMap g
  | [], _ => rfl
  | x :: l, h => by
    rw [List.filterMap_cons, List.filterMap_cons, h x List.mem_cons_self, fm_congr fun y hy => h y (List.mem_cons_of_mem _ hy)]
def evr {α : Type} (k : Nat) (xs : List α) : List α := (List.range ((xs.length - k + 1) / 2)).filterMap fun i => xs[k + 2 * i]?
theorem pick_two (items : Array Value) (k : Nat) (lo : Option Int) (h : lo = none ∧ k = 0 ∨ lo = some (k : Int)) : slicePick items lo none (some 2) = (evr k items.toList).toArray := by
  have e : sliceBounds lo none (some 2) items.size = (((min k items.size : Nat) : Int), (items.size : Int), 2) := by
    rcases h with ⟨h, h2⟩ | h
    · subst h h2
      simp [sliceBounds]
    · subst h
      have h0 : ¬ ((k : Int) < 0) := by omega
      simp only [sliceBounds, Option.getD_some, h0, if_false, show ((2 : Int) > 0) = True from by simp, if_true]
      refine Prod.ext ?_ rfl
      show max (0 : Int) (min (k : Int) (items.size : Int)) = _
      omega
  unfold slicePick evr
  rw [e]
  congr 1
  unfold sliceRange
  simp only [show ((2 : Int) > 0) = True from by simp, if_true]
  have ec : (if ((min k items.size : Nat) : Int) < (items.size : Int) then ((items.size : Int) - ((min k items.size : Nat) : Int) + 2 - 1) / 2 else 0).toNat = (items.toList.length - k + 1) / 2 := by
    rw [Array.length_toList]
    split <;> omega
  rw [ec, List.filterMap_map]
  refine fm_congr fun i hi => ?_
  have := List.mem_range.mp hi
  rw [Array.length_toList] at this
  show items[(((min k items.size : Nat) : Int) + 2 * (i : Int)).toNat]? = items.toList[k + 2 * i]?
  rw [show (((min k items.size : Nat) : Int) + 2 * (i : Int)).toNat = k + 2 * i by omega, Array.getElem?_toList]
theorem vals_evr {xs : List V} {us : List Value} (h : Vals xs us) (k : Nat) : Vals (evr k xs) (evr k us) := by
  have hl := h.length
  unfold evr
  rw [hl]
  induction (List.range ((us.length - k + 1) / 2)) with
  | nil => exact .nil
  | cons i is ih =>
    rw [List.filterMap_cons, List.filterMap_cons]
    by_cases hi : k + 2 * i < us.length
    · obtain ⟨u, h1, h2⟩ := h.get (List.getElem?_eq_getElem (show k + 2 * i < xs.length by omega))
      rw [List.getElem?_eq_getElem (show k + 2 * i < xs.length by omega), h1]
      exact .cons h2 ih
    · rw [List.getElem?_eq_none (by omega), List.getElem?_eq_none (by omega)]
      exact ih
theorem dpa_evr {K : PySem.W.Frag} {F : Hp} {xs : List V} {ds : List D} (h : DqAll K F xs ds) {k : Nat} : DqAll K F (evr k xs) (evr k ds) := by
  have hl := dpa_len h
  unfold evr
  rw [hl]
  induction (List.range ((ds.length - k + 1) / 2)) with
  | nil => exact .nil
  | cons i is ih =>
    rw [List.filterMap_cons, List.filterMap_cons]
    by_cases hi : k + 2 * i < ds.length
    · obtain ⟨v, h1, h2⟩ := dpa_get h (List.getElem?_eq_getElem hi)
      rw [List.getElem?_eq_getElem hi, h1]
      exact .cons h2 ih
    · rw [List.getElem?_eq_none (by omega), List.getElem?_eq_none (by omega)]
      exact ih
theorem evr_le {α : Type} (k : Nat) (xs : List α) : (evr k xs).length ≤ xs.length := by
  unfold evr
  refine Nat.le_trans (List.length_filterMap_le _ _) ?_
  rw [List.length_range]
  omega
section
variable {X : Cx}
def tSt2 (K : PySem.W.Frag) (te : TE) (k : Nat) : TE := fun σ H Q => te σ H fun x H1 => ∃ a xs, x = .ref a ∧ SqL K H1 a xs ∧ ∀ p, H1 p = none → Q (.ref p) (upd H1 p (.lst (evr k xs)))
theorem pe_st2 {e : Expr} {te : TE} {l : Option Expr} {lo : Option Int} {k j : Nat} {p1 p3 pos : Pos} (pl : PO X l (fun σ H R => R lo H)) (hk : lo = none ∧ k = 0 ∨ lo = some (k : Int)) (he : PE X e te) : PE X (.Subscript e (.Slice l none (some (.Constant (.int 2) j p1)) p3) pos) (tSt2 X.K te k) := by
  refine ⟨fun pins s σ H Q I h => ?_⟩
  refine Subscript_ (thn (he.run pins s σ H _ I h) fun v s1 w1 => ?_)
  obtain ⟨x, H1, I1, r1, a, xs, ex, hx, q⟩ := w1
  subst ex
  cases r1
  have hst : PO X (some (.Constant (.int 2) j p1)) (tPart (tC (.int 2))) := po_some pe_int
  refine wpAny_Slice (thn (pl.run pins s1 σ H1 (fun o H2 => o = lo ∧ H2 = H1) I1 ⟨rfl, rfl⟩) fun vl s2 w2 => ?_)
  obtain ⟨l', H2, I2, pl', el, e2⟩ := w2
  subst el e2
  refine thn (po_none.run pins s2 σ H2 (fun o H3 => o = none ∧ H3 = H2) I2 ⟨rfl, rfl⟩) fun vu s3 w3 => ?_
  obtain ⟨u, H3, I3, pu, eu, e3⟩ := w3
  subst eu e3
  refine thn (hst.run pins s3 σ H3 (fun o H4 => o = some 2 ∧ H4 = H3) I3 ⟨2, rfl, rfl, rfl⟩) fun vs s4 w4 => ?_
  obtain ⟨o, H4, I4, ps, eo, e4⟩ := w4
  subst eo e4
  have I5 : Inv X pins σ H4 { s4 with heap := s4.heap.push { cls := .type "slice", data := .fields #[vl, vu, vs] } } := I4.kept (t' := s4.toks) fun b ob q => Heap.get?_push_of_some _ q
  show wpAny (model X.prog X.w) X.A (subscriptTail e (.Slice l none (some (.Constant (.int 2) j p1)) p3) (.ref a) (.ref s4.heap.objs.size)) (EP X pins σ Q) X.xe { s4 with heap := s4.heap.push { cls := .type "slice", data := .fields #[vl, vu, vs] } }
  obtain ⟨its, r, ht, hz⟩ := I5.list hx
  have hlen := r.length
  refine tail_any (ops := [.ref a, .ref s4.heap.objs.size]) ht.isList.typeIs (PySem.slot_list_getitem.lookup) ?_ (by with_unfolding_all rfl)
  refine wpAny_getItem_list_slice ht.isList (Heap.IsSliceOf.new _ vl vu vs) pl' pu ps (by decide) ?_ (by rw [List.size_toArray]; omega)
  rw [pick_two its.toArray k _ hk]
  refine ⟨.ref _, _, I5.laid (t' := s4.toks) (o := .lst (evr k xs)) (fun b ob q => Heap.get?_push_of_some _ q) (Nat.le_refl _) ?_, rfl, q _ (I5.hok.fresh (Nat.le_refl _))⟩
  exact ⟨Nat.le_trans (evr_le k xs) hz, _, 0, vals_evr r k, Heap.get?_push_size _ rfl⟩
end
section
variable {X : Cx}
theorem valGet {xs : List V} {us : List Value} (h : Vals xs us) {i : Nat} {v : Value} (e : us[i]? = some v) : ∃ x, xs[i]? = some x ∧ RelV x v := by
  have hl := h.length
  have hi : i < us.length := (List.getElem?_eq_some_iff.mp e).1
  obtain ⟨u, h1, h2⟩ := h.get (List.getElem?_eq_getElem (show i < xs.length by omega))
  rw [e] at h1
  cases h1
  exact ⟨_, List.getElem?_eq_getElem (by omega), h2⟩
def rBestD (K : PySem.W.Frag) (b : D → List D → D) : List V → Hp → VK → Prop := fun vs H Q => ∃ (a : Addr) (xs : List V) (d : D) (ds : List D), vs = [V.ref a] ∧ (SqL K H a xs ∨ SqT K H a xs) ∧ DpAll K H xs (d :: ds) ∧ PyData.plainAll (d :: ds) = true ∧ PySem.W.AlikeAll (d :: ds) ∧
  PyData.depthAll (d :: ds) ≤ 60 ∧ ∀ (i : Nat) (x : V), xs[i]? = some x → (d :: ds)[i]? = some (b d ds) → Q x H
theorem best_end {pins : List (Addr × Obj)} {s : Shared} {σ : L2.St} {H : Hp} {Q : VK} {xs : List V} {its : List Value} {ds : List D} {m : D} {as bs : List Addr} {i : Nat} {v : Value} {h' : Heap} {tk : Nat} (I : Inv X pins σ H s) (rv : Vals xs its) (rd : ReadsAll s.heap its ds as)
    (pl : PyData.plainAll ds = true) (hv : its.toArray[i]? = some v) (hr : Reads h' v m bs) (hk : ∀ b o, s.heap.get? b = some o → h'.get? b = some o) (q : ∀ x, xs[i]? = some x → ds[i]? = some m → Q x H) : EP X pins σ Q v { s with heap := h', toks := tk } := by
  have hv' : its[i]? = some v := by simpa using hv
  obtain ⟨x, hx, rx⟩ := valGet rv hv'
  obtain ⟨cs, r1, hi, hm, _⟩ := PySem.W.readsAll_atA (vs := its.toArray) (show ReadsAll s.heap its.toArray.toList ds as from rd) i v hv
  have e := PySem.SeqAt.plain_unique _ m v cs bs (PySem.W.plain_mem pl hm) (PySem.W.reads_keeps hk r1) hr
  refine ⟨x, H, I.kept hk, rx, q x hx ?_⟩
  rw [← e, List.getElem?_eq_getElem hi, List.getD_eq_getElem?_getD, List.getElem?_eq_getElem hi] <;> rfl
theorem cr_minD (hc : X.calm = true) (hu : X.A.units + 65 < cLine) : CallR X (.builtin "min") (rBestD X.K PySem.W.minD) := by
  intro pins s σ H vs us Q I r h
  obtain ⟨a, xs, d, ds, rfl, hq, hd, pl, al, dp, q⟩ := h
  obtain ⟨u, rfl, ru⟩ := vals1 r
  obtain rfl : u = Value.ref a := ru
  rcases hq with hq | hq
  · obtain ⟨its, rv, p, hz⟩ := I.list hq
    obtain ⟨as, rd⟩ := Dp.readsAll I (d :: ds) xs its hd rv
    exact PySem.W.min_list_data (I.ok.hd hc) p.isList (show ReadsAll s.heap its.toArray.toList (d :: ds) as from rd) al (by omega) fun i v h' tk bs hv hr hk => best_end I rv rd pl hv hr hk (q i)
  · obtain ⟨its, rv, p, hz⟩ := I.tuple hq
    obtain ⟨as, rd⟩ := Dp.readsAll I (d :: ds) xs its hd rv
    exact PySem.W.min_tuple_data (I.ok.hd hc) p (show ReadsAll s.heap its.toArray.toList (d :: ds) as from rd) al (by omega) fun i v h' tk bs hv hr hk => best_end I rv rd pl hv hr hk (q i)
theorem cr_maxD (hc : X.calm = true) (hu : X.A.units + 65 < cLine) : CallR X (.builtin "max") (rBestD X.K PySem.W.maxD) := by
  intro pins s σ H vs us Q I r h
  obtain ⟨a, xs, d, ds, rfl, hq, hd, pl, al, dp, q⟩ := h
  obtain ⟨u, rfl, ru⟩ := vals1 r
  obtain rfl : u = Value.ref a := ru
  rcases hq with hq | hq
  · obtain ⟨its, rv, p, hz⟩ := I.list hq
    obtain ⟨as, rd⟩ := Dp.readsAll I (d :: ds) xs its hd rv
    exact PySem.W.max_list_data (I.ok.hd hc) p.isList (show ReadsAll s.heap its.toArray.toList (d :: ds) as from rd) al (by omega) fun i v h' tk bs hv hr hk => best_end I rv rd pl hv hr hk (q i)
  · obtain ⟨its, rv, p, hz⟩ := I.tuple hq
    obtain ⟨as, rd⟩ := Dp.readsAll I (d :: ds) xs its hd rv
    exact PySem.W.max_tuple_data (I.ok.hd hc) p (show ReadsAll s.heap its.toArray.toList (d :: ds) as from rd) al (by omega) fun i v h' tk bs hv hr hk => best_end I rv rd pl hv hr hk (q i)
theorem each_zip {S : Value → D → Prop} : ∀ {xs : List V} {us : List Value} {ds : List D}, Vals xs us → PySem.W.EachIs S us ds → PySem.W.EachIs (fun v (b : V × D) => RelV b.1 v ∧ S v b.2) us (xs.zip ds)
  | _, _, _, .nil, .nil => .nil
  | _, _, _, .cons r rs, .cons e es => .cons ⟨r, e⟩ (each_zip rs es)
theorem each_vals {S : Value → V × D → Prop} : ∀ {us : List Value} {zs : List (V × D)}, PySem.W.EachIs (fun v (b : V × D) => RelV b.1 v ∧ S v b) us zs → Vals (zs.map (·.1)) us
  | _, _, .nil => .nil
  | _, _, .cons h t => .cons h.1 (each_vals t)
def rSrtD (K : PySem.W.Frag) : List V → Hp → VK → Prop := fun vs H Q => ∃ (a : Addr) (xs : List V) (ds : List D), vs = [V.ref a] ∧ SqL K H a xs ∧ DpAll K H xs ds ∧ PySem.W.AllAlike ds ∧ PySem.W.Sortable ds ∧ (∀ d ∈ ds, d.depth ≤ 60) ∧
  ∀ zs : List (V × D), zs.Perm (xs.zip ds) → zs.map (·.2) = ds.mergeSort (PySem.W.dataLe false id) → ∀ p, H p = none → Q (.ref p) (upd H p (.lst (zs.map (·.1))))
theorem cr_srtD (hu : X.A.units + 65 < cLine) : CallR X (.builtin "sorted") (rSrtD X.K) := by
  intro pins s σ H vs us Q I r h
  obtain ⟨a, xs, ds, rfl, hq, hd, al, so, dp, q⟩ := h
  obtain ⟨u, rfl, ru⟩ := vals1 r
  obtain rfl : u = Value.ref a := ru
  obtain ⟨its, rv, p, hz⟩ := I.list hq
  obtain ⟨as, rd⟩ := Dp.readsAll I ds xs its hd rv
  have ed : PySem.W.EachIs (fun v (d : D) => ∃ as, Reads s.heap v d as) its ds := by
    have := PySem.W.readsAll_each (enc := fun d : D => d) (bs := ds) (by rw [List.map_id']; exact rd)
    exact this
  have ez := each_zip rv ed
  have l1 := rv.length
  have l2 : its.length = ds.length := PySem.W.EachIs.length ed
  have lz : (xs.zip ds).length = ds.length := by rw [List.length_zip]; omega
  have em : (xs.zip ds).map (·.2) = ds := by rw [List.map_snd_zip]; omega
  refine PySem.W.sorted_data (enc := fun b : V × D => b.2) (bs := xs.zip ds) (R := fun v (b : V × D) => RelV b.1 v ∧ ∃ as, Reads s.heap v b.2 as) p.isList ez (ez.mono fun _ _ z => z.2) (by rw [em]; exact al) (by rw [em]; exact so) (by omega)
    (fun b hb => by have := dp b.2 (by rw [← em]; exact List.mem_map.mpr ⟨b, hb, rfl⟩); omega) fun out hl eo => ?_
  obtain ⟨zs, ezs⟩ : ∃ zs, zs = (xs.zip ds).mergeSort (PySem.W.dataLe false fun b : V × D => b.2) := ⟨_, rfl⟩
  rw [← ezs] at eo
  have pm : zs.Perm (xs.zip ds) := by rw [ezs]; exact List.mergeSort_perm _ _
  have ems : zs.map (·.2) = ds.mergeSort (PySem.W.dataLe false id) := by
    have h := List.map_mergeSort (r := PySem.W.dataLe false fun b : V × D => b.2) (f := fun b : V × D => b.2) (s := PySem.W.dataLe false id) (l := xs.zip ds) (fun _ _ _ _ => rfl)
    rw [ezs]
    exact h.trans (by rw [em])
  obtain ⟨c, hc⟩ := sortedAll_at s.heap its out.toArray
  have hn : H (s.heap.objs.size + 1) = none := I.hok.fresh (Nat.le_succ _)
  refine ⟨.ref (s.heap.objs.size + 1), _, I.laid (t' := s.toks) (o := .lst (zs.map (·.1))) (fun b o e => sortedAll_old e) (Nat.le_succ _) ⟨?_, out, c, each_vals eo, hc⟩, rfl, q zs pm ems _ hn⟩
  rw [List.length_map, pm.length_eq]
  omega
def vIdx (vs : List Vec) (v : Vec) : Nat := vs.findIdx fun u => decide (u = v)
def rTix (K : PySem.W.Frag) : V → List V → Hp → VK → Prop := fun x xs H Q => ∃ (p : Addr) (y : V) (zs : List V) (vs : List Vec) (v : Vec), x = .ref p ∧ xs = [y] ∧ SqT K H p zs ∧ DpAll K H zs (vs.map vD) ∧ Dp K H y (vD v) ∧ v ∈ vs ∧ Q (.int (vIdx vs v : Nat)) H
theorem mt_tix (hu : X.A.units + 65 < cLine) : MtR X "tuple.index" (rTix X.K) := by
  intro pins s σ H x xs v us Q I rx rxs h
  obtain ⟨p, y, zs, vs, v', rfl, rfl, hq, hd, hy, hm, q⟩ := h
  cases rx
  cases rxs with
  | cons ry rt =>
    rename_i uy ut
    cases rt
    obtain ⟨its, rv, ht, hz⟩ := I.tuple hq
    obtain ⟨as, rd⟩ := Dp.readsAll I (vs.map vD) zs its hd rv
    obtain ⟨bs, r1⟩ := Dp.reads I (vD v') y uy hy ry
    refine PySem.W.index_tuple_datum (α := Vec) (x := v') (xs := vs) ht (H := ⟨as, rd⟩) (Hx := ⟨bs, r1⟩) ?_ hm ⟨.int (vIdx vs v' : Nat), H, I.tok _, ⟨s.toks, rfl⟩, q⟩
    show X.A.units + 1 + (max 0 0 + 1) < cLine
    omega
def tLS (K : PySem.W.Frag) (ta : TE) : TE := fun σ H Q => ta σ H fun x H1 => ∃ (l : Addr) (ks : List (Addr × List Int)), x = V.ref l ∧ (SqL K H1 l (refsV ks) ∨ SqT K H1 l (refsV ks)) ∧ (∀ p ∈ ks, SqT K H1 p.1 (p.2.map V.int) ∧ p.2.length = 2) ∧ ks.length ≤ 2047 ∧
  ∀ L : List (Addr × List Int), (∀ q ∈ L, q ∈ ks) → (∀ q ∈ ks, q.2 ∈ L.map (·.2)) → (L.map (·.2)).Nodup → Q (.int (L.length : Nat)) H1
theorem pe_lset {a : Expr} {ta : TE} {p p2 q pos : Pos} (hc : X.calm = true) (hu : X.A.units + 64 < cLine) (hg : Gl X "len") (hm : X.mg "len" = none) (hg2 : Gl X "set") (hm2 : X.mg "set" = none) (ha : PE X a ta)
    (na : starEach [a] X.env = (false, eval a X.env) :: starEach [] X.env := by rfl) : PE X (.Call (.Name "len" p) [.Call (.Name "set" p2) [a] [] q] [] pos) (tLS X.K ta) := by
  refine ⟨fun pins s σ H Q I h => ?_⟩
  refine Call_ (ld_blt I hg hm PySem.boot_len ?_)
  refine PyProof.Rows.callWith_builtin1 (PyProof.Rows.args_cons ?_ rfl) rfl rfl
  refine Call_ (ld_blt I hg2 hm2 PyProof.Rows.boot_set ?_)
  refine PyProof.Rows.callWith_type1 (PyProof.Rows.args_cons (thn (ha.run pins s σ H _ I h) fun v s1 ⟨x, H1, I1, r1, q1⟩ => PyProof.Rows.args_nil ?_) na) na rfl
  obtain ⟨l, ks, rfl, hq, hk, few, q1⟩ := q1
  cases r1
  have tup : ∀ p ∈ ks, IsT X.prog X.w s1.heap p.2 p.1 := fun p hp => I1.isT (hk p hp).1
  suffices fin : ∀ (s2 : Shared) (n : Addr) L es ep t, Inv X pins σ H1 s2 → SG X.prog X.w s2.heap n L es ep t → Got ks ks.length L → wpAny (model X.prog X.w) X.A (call (.builtin "len") [.ref n]) (EP X pins σ Q) X.xe s2 by
    rcases hq with hq | hq
    · obtain ⟨its, rv, pl, hz⟩ := I1.list hq
      exact set_of_list (P := X.prog) (w := X.w) ks (I1.ok.hd hc) pl.isList (by simpa using refs_of_vals rv) tup few (by omega) fun h' tk L es ep t R g k => PyProof.Rows.args_nil (fin _ _ L es ep t (I1.kept k) R g)
    · obtain ⟨its, rv, pl, hz⟩ := I1.tuple hq
      exact set_of_tuple (P := X.prog) (w := X.w) ks (I1.ok.hd hc) pl (by simpa using refs_of_vals rv) tup few (by omega) fun h' tk L es ep t R g k => PyProof.Rows.args_nil (fin _ _ L es ep t (I1.kept k) R g)
  intro s2 n L es ep t I2 R g
  have sub : ∀ p ∈ L, p ∈ ks := fun p hp => List.mem_of_mem_take (g.sub p hp)
  obtain ⟨o, ho, hex, hd⟩ := R.ob
  have sz := rows_len R.rows
  have gl := g.len
  refine call_len_set ho hex hd R.fits (by omega) ⟨.int (L.length : Nat), H1, I2.tok _, ⟨_, by rw [sz]⟩, q1 L sub (fun q hq => ?_) R.nd⟩
  exact g.all q (by rw [List.take_length]; exact hq)
end
theorem srt_zip {K : PySem.W.Frag} {F : Hp} {xs : List V} {ds : List D} (h : DqAll K F xs ds) : ∀ z ∈ xs.zip ds, Dq K F z.1 z.2 := by
  induction ds generalizing xs with
  | nil => cases h; intro z hz; cases hz
  | cons d ds ih =>
    cases h with
    | cons h1 h2 =>
      intro z hz
      rw [List.zip_cons_cons] at hz
      rcases List.mem_cons.mp hz with e | hz
      · rw [e]; exact h1
      · exact ih h2 z hz
theorem dqa_of {K : PySem.W.Frag} {F : Hp} : ∀ {zs : List (V × D)}, (∀ z ∈ zs, Dq K F z.1 z.2) → DqAll K F (zs.map (·.1)) (zs.map (·.2))
  | [], _ => .nil
  | z :: zs, h => .cons (h z List.mem_cons_self) (dqa_of fun y hy => h y (List.mem_cons_of_mem _ hy))
theorem lset_out {ks L : List (Addr × List Int)} {vs : List Vec} (two : ∀ p ∈ ks, p.2.length = 2) (e : ks.map (fun p => prI p.2) = vs) (sub : ∀ q ∈ L, q ∈ ks) (all : ∀ q ∈ ks, q.2 ∈ L.map (·.2)) (nd : (L.map (·.2)).Nodup) :
    (L.map fun p => prI p.2).Nodup ∧ ∀ v, v ∈ (L.map fun p => prI p.2) ↔ v ∈ vs := by
  constructor
  · unfold List.Nodup
    rw [List.pairwise_map]
    refine List.Pairwise.imp_of_mem (fun {q r} hq hr h z => ?_) (List.pairwise_map.mp nd)
    exact h (prI_inj (two q (sub q hq)) (two r (sub r hr)) z)
  · intro v
    rw [← e]
    constructor
    · intro h
      obtain ⟨q, hq, rfl⟩ := List.mem_map.mp h
      exact List.mem_map.mpr ⟨q, sub q hq, rfl⟩
    · intro h
      obtain ⟨q, hq, rfl⟩ := List.mem_map.mp h
      obtain ⟨r, hr, e2⟩ := List.mem_map.mp (all q hq)
      exact List.mem_map.mpr ⟨r, hr, by rw [e2]⟩
end DL
end
section
set_option maxRecDepth 100000
set_option maxHeartbeats 4000000
namespace DL
open PySem PySem.Spec PyProof.Rows L2
inductive Tg where
  | nm (i : Nat)
  | tp (is : List Nat)
def Tg.slots : Tg → List Nat
  | .nm i => [i]
  | .tp is => is
inductive Bi where
  | len | abs | max1 | min1 | max2 | min2 | sum1 | all1 | any1 | list1 | tuple1 | int1 | str1
  deriving DecidableEq
mutual
inductive E where
  | v (i : Nat) | non | bl (b : Bool) | int (k : Int) | str (x : Str) | gl (k : Nat)
  | bin (op : Operator) (a b : E)
  | neg (a : E) | not (a : E)
  | cmp (op : CmpOp) (a b : E)
  | chn (op op' : CmpOp) (a b c : E)
  | isN (a : E) | notN (a : E)
  | and (a b : E) | or (a b : E)
  | tup (es : Es) | lst (es : Es)
  | ix (a b : E)
  | sl (a : E) (lo hi : Es)
  | call (f : Nat) (es : Es)
  | bi (b : Bi) (es : Es)
  | isi (a : E) (t : String)
  | lc (elt : E) (tg : Tg) (it : It) (cond : Es) (own : List (Str × Nat))
  | sset (a : E) | rvs (a : E) | isB (b neg : Bool) (a : E)
  | srt (a : E) | best (mx : Bool) (a : E) | tix (a b : E) | lset (a : E) | st2 (k : Nat) (a : E) | lrg (a : E) | spl (a b : E) | sfd (ix : Bool) (a b : E) | jn (a b : E)
  | lzip (a b : E) | lrvd (a : E) | trvd (a : E) | lix (a b : E)
inductive Es where
  | nil
  | cons (e : E) (es : Es)
inductive It where
  | ex (e : E)
  | rng1 (a : E)
  | rng2 (a b : E)
  | rng3 (a b : E) (c : Nat)
  | enu (e : E)
  | zip (a b : E)
  | rvd (e : E)
end
def glD : Nat → D
  | 0 => .str "0123456789"
  | 1 => .int 600
  | 2 => .tuple [.int 0, .int 0, .int 1]
  | 3 => .tuple [.int 1, .int 1]
  | 4 => .tuple [.int 0, .int 1]
  | 5 => .str "abcdefghijklmnopqrstuvwxyz"
  | 6 => .int 12
  | 7 => .int 12
  | 8 => .int 12
  | 9 => .int 1000000000
  | 10 => .int 8
  | 11 => .tuple [.int 0, .int 1]
  | 12 => .tuple [.int 1, .int 1]
  | 13 => .tuple [.int 0, .int 0, .int 1]
  | 14 => .tuple [.int 0, .int 1]
  | 15 => .tuple [.int 1, .int 1]
  | 16 => .tuple [.int 0, .int 0, .int 1]
  | 17 => .tuple [.int 0, .int 0, .int 1]
  | _ => .none
abbrev DSp := List D → (R → Prop) → (Nat → Prop) → Prop
def wVar (ρ : En) (i : Nat) (Q : R → Prop) : Prop := match ρ[i]? with
  | some (some (.d x)) => Q (.d x)
  | some (some (.l ds _)) => Q (.l ds false)
  | _ => False
def wLen (r : R) (Q : R → Prop) : Prop := match look r with
  | .list ds => Q (.d (.int ds.length))
  | .tuple ds => Q (.d (.int ds.length))
  | .str z => z.length ≤ sizeLine ∧ Q (.d (.int z.length))
  | _ => False
def w1 (f : R → (R → Prop) → Prop) : List R → (R → Prop) → Prop
  | [r], Q => f r Q
  | _, _ => False
def w2 (f : R → R → (R → Prop) → Prop) : List R → (R → Prop) → Prop
  | [r, s], Q => f r s Q
  | _, _ => False
def wAbs (r : R) (Q : R → Prop) : Prop := match r with
  | .d (.int i) => Q (.d (.int (if i < 0 then -i else i)))
  | _ => False
def wMax1 (r : R) (Q : R → Prop) : Prop := ∃ ns : List Int, look r = .list (ns.map .int) ∧ 0 < ns.length ∧ ∀ m, m ∈ ns → (∀ y, y ∈ ns → y ≤ m) → Q (.d (.int m))
def wMin1 (r : R) (Q : R → Prop) : Prop := ∃ ns : List Int, look r = .list (ns.map .int) ∧ 0 < ns.length ∧ ∀ m, m ∈ ns → (∀ y, y ∈ ns → m ≤ y) → Q (.d (.int m))
def wII (f : Int → Int → Int) (r s : R) (Q : R → Prop) : Prop := match r, s with
  | .d (.int i), .d (.int j) => Q (.d (.int (f i j)))
  | _, _ => False
def wSum1 (r : R) (Q : R → Prop) : Prop := ∃ ns : List Int, look r = .list (ns.map .int) ∧ Q (.d (.int ns.sum))
def wAll1 (r : R) (Q : R → Prop) : Prop := ∃ bs : List Bool, look r = .list (bs.map .bool) ∧ Q (.d (.bool (bs.all id)))
def wAny1 (r : R) (Q : R → Prop) : Prop := ∃ bs : List Bool, look r = .list (bs.map .bool) ∧ Q (.d (.bool (bs.any id)))
def wList1 (r : R) (Q : R → Prop) : Prop := match look r with
  | .list ds => Q (.l ds true)
  | .tuple ds => Q (.l ds true)
  | _ => False
def wTup1 (r : R) (Q : R → Prop) : Prop := match look r with
  | .list ds => Q (.d (.tuple ds))
  | .tuple ds => Q (.d (.tuple ds))
  | _ => False
def wInt1 (r : R) (Q : R → Prop) : Prop := match r with
  | .d (.int i) => Q (.d (.int i))
  | .d (.bool b) => Q (.d (.int (if b then 1 else 0)))
  | .d (.str z) => ∃ n, PySem.intText? z = some n ∧ z.length ≤ 640 ∧ Q (.d (.int n))
  | _ => False
def wStr1 (r : R) (Q : R → Prop) : Prop := match r with
  | .d (.int i) => i.natAbs.log2 < 1920 ∧ Q (.d (.str (toString i)))
  | _ => False
def wBi (b : Bi) : List R → (R → Prop) → Prop := match b with
  | .len => w1 wLen
  | .abs => w1 wAbs
  | .max1 => w1 wMax1
  | .min1 => w1 wMin1
  | .max2 => w2 (wII fun i j => if j > i then j else i)
  | .min2 => w2 (wII fun i j => if j < i then j else i)
  | .sum1 => w1 wSum1
  | .all1 => w1 wAll1
  | .any1 => w1 wAny1
  | .list1 => w1 wList1
  | .tuple1 => w1 wTup1
  | .int1 => w1 wInt1
  | .str1 => w1 wStr1
def wSset (r : R) (Q : R → Prop) : Prop := ∃ vs : List Vec, (look r = .list (vs.map vD) ∨ look r = .tuple (vs.map vD)) ∧ vs.length ≤ 2047 ∧ ∀ ws : List Vec, ws.Pairwise vLt → (∀ v, v ∈ ws ↔ v ∈ vs) → Q (.l (ws.map vD) true)
def wRvs (r : R) (Q : R → Prop) : Prop := match look r with
  | .list ds => Q (.l ds.reverse true)
  | .tuple ds => Q (.d (.tuple ds.reverse))
  | _ => False
def tupOk (r : R) : Prop := ∃ (d : D) (ds : List D), look r = .tuple (d :: ds) ∧ isTp d = true
def strOk (r : R) : Prop := ∃ z : Str, look r = .str z
def wSrt (r : R) (Q : R → Prop) : Prop := ∃ ds : List D, look r = .list ds ∧ PySem.W.AllAlike ds ∧ PySem.W.Sortable ds ∧ (∀ d ∈ ds, d.depth ≤ 60) ∧ Q (.l (ds.mergeSort (PySem.W.dataLe false id)) true)
def wBest (mx : Bool) (r : R) (Q : R → Prop) : Prop := ∃ (d : D) (ds : List D), (look r = .list (d :: ds) ∨ look r = .tuple (d :: ds)) ∧ PySem.W.AlikeAll (d :: ds) ∧ PyData.depthAll (d :: ds) ≤ 60 ∧ Q (.d (if mx then PySem.W.maxD d ds else PySem.W.minD d ds))
def wTix (r s : R) (Q : R → Prop) : Prop := ∃ (vs : List Vec) (v : Vec), look r = .tuple (vs.map vD) ∧ look s = vD v ∧ v ∈ vs ∧ Q (.d (.int (vIdx vs v : Nat)))
def wLset (r : R) (Q : R → Prop) : Prop := ∃ vs : List Vec, (look r = .list (vs.map vD) ∨ look r = .tuple (vs.map vD)) ∧ vs.length ≤ 2047 ∧ ∀ ws : List Vec, ws.Nodup → (∀ v, v ∈ ws ↔ v ∈ vs) → Q (.d (.int (ws.length : Nat)))
def wSt2 (k : Nat) (r : R) (Q : R → Prop) : Prop := match look r with
  | .list ds => Q (.l (evr (k - 1) ds) true)
  | _ => False
def wLrg (r : R) (Q : R → Prop) : Prop := match r with
  | .d (.int j) => j ≤ sizeLine ∧ -(2 ^ 62) ≤ j ∧ Q (.l ((List.range j.toNat).map fun (k : Nat) => .int (k : Int)) true)
  | _ => False
def wSfd (ix : Bool) (r s : R) (Q : R → Prop) : Prop := match r, s with
  | .d (.str a), .d (.str b) => (ix = true → 0 ≤ Txt.find a b) ∧ Q (.d (.int (Txt.find a b)))
  | _, _ => False
def wSpl (r s : R) (Q : R → Prop) : Prop := match r, s with
  | .d (.str a), .d (.str b) => (b.length == 0) = false ∧ a.length + 2 ≤ sizeLine ∧ Q (.l ((Txt.split a b).map .str) true)
  | _, _ => False
def wJn (r s : R) (Q : R → Prop) : Prop := match r with
  | .d (.str a) => ∃ ys : List Str, (look s = .list (ys.map .str) ∨ look s = .tuple (ys.map .str)) ∧ (ys.map (·.length)).sum + ys.length * a.length ≤ 16777216 ∧ Q (.d (.str (Txt.join a ys)))
  | _ => False
def wLix (r s : R) (Q : R → Prop) : Prop := ∃ (ds : List D) (j : Nat) (z : D), look r = .list ds ∧ SeqAt.shaped (.list ds) = true ∧ SeqAt.shaped (look s) = true ∧ ds[j]? = some z ∧ PyData.eqv z (look s) = true ∧
  (∀ (m : Nat) (z' : D), m < j → ds[m]? = some z' → PyData.eqv z' (look s) = false) ∧ Q (.d (.int (j : Nat)))
def rngC (lo c : Int) (n : Nat) : List D := (List.range n).map fun (k : Nat) => .int (lo + k * c)
def wIsB (b neg : Bool) (r : R) (Q : R → Prop) : Prop := match r with
  | .d (.bool c) => Q (.d (.bool (neg != decide (c = b))))
  | _ => False
def tyD : D → String
  | .none => "NoneType"
  | .bool _ => "bool"
  | .int _ => "int"
  | .str _ => "str"
  | .list _ => "list"
  | .tuple _ => "tuple"
  | .dict _ => "dict"
def isiB (d : D) (t : String) : Bool := (kitB (tyD d) t).getD false
def isiOk (d : D) (t : String) : Prop := kitB (tyD d) t ≠ none
def setAll : En → List Nat → List D → Option En
  | ρ, [], [] => some ρ
  | ρ, i :: is, d :: ds => setAll (ρ.set i (some (.d d))) is ds
  | _, _, _ => none
def stT (t : Tg) (d : D) (ρ : En) (k : En → Prop) : Prop := match t with
  | .nm i => k (ρ.set i (some (.d d)))
  | .tp is => (match d with
    | .tuple ds => (match setAll ρ is ds with
      | some ρ' => k ρ'
      | none => False)
    | _ => False)
structure wIf (k : Bool) (a b : Prop) : Prop where
  t : k = true → a
  f : k = false → b
theorem wIf_t {a b : Prop} (h : wIf true a b) : a := h.1 rfl
theorem wIf_f {a b : Prop} (h : wIf false a b) : b := h.2 rfl
def lcLoop (st : D → En → (En → Prop) → Prop) (tt : En → (Bool → Prop) → Prop) (el : En → (R → Prop) → Prop) (ρ : En) : List D → List D → (R → Prop) → Prop
  | [], acc, Q => Q (.l acc true)
  | d :: ds, acc, Q => st d ρ fun ρ2 => tt ρ2 fun b => wIf b (el ρ2 fun r => frzP r fun y => lcLoop st tt el ρ ds (acc ++ [y]) Q) (lcLoop st tt el ρ ds acc Q)
def borR (r : R) : Bool := match r with
  | .l _ false => true
  | _ => false
def rngD (lo : Int) (n : Nat) : List D := (List.range n).map fun (k : Nat) => .int (lo + k)
def enumD (ds : List D) : List D := (List.range ds.length).zipWith (fun (k : Nat) d => .tuple [.int k, d]) ds
def zipD (ds es : List D) : List D := ds.zipWith (fun d e => .tuple [d, e]) es
def wZip (r s : R) (Q : List D → Bool → Prop) : Prop := match look r, look s with
  | .list ds, .list es => Q (zipD ds es) (borR r || borR s)
  | .tuple ds, .tuple es => Q (zipD ds es) false
  | .list ds, .tuple es => Q (zipD ds es) (borR r || borR s)
  | .tuple ds, .list es => Q (zipD ds es) (borR r || borR s)
  | _, _ => False
theorem bor_tup {r : R} {ds : List D} (e : look r = .tuple ds) : borR r = false := by
  cases r with
  | d x => rfl
  | l es fr => cases e
def strD (z : Str) : List D := z.cps.toList.map fun c => .str ⟨#[c]⟩
mutual
def wE (G : Nat → DSp) : E → En → (Nat → Prop) → (R → Prop) → Prop
  | .v i, ρ, X, Q => wVar ρ i Q
  | .non, ρ, X, Q => Q (.d .none)
  | .bl b, ρ, X, Q => Q (.d (.bool b))
  | .int k, ρ, X, Q => Q (.d (.int k))
  | .str x, ρ, X, Q => Q (.d (.str x))
  | .gl k, ρ, X, Q => Q (.d (glD k))
  | .bin op a b, ρ, X, Q => wE G a ρ X fun r => wE G b ρ X fun s => wBin op r s Q
  | .neg a, ρ, X, Q => wE G a ρ X fun r => wNeg r Q
  | .not a, ρ, X, Q => wE G a ρ X fun r => wTru r fun b => Q (.d (.bool (!b)))
  | .cmp op a b, ρ, X, Q => wE G a ρ X fun r => wE G b ρ X fun s => wCmp op r s Q
  | .chn op op' a b c, ρ, X, Q => wE G a ρ X fun r => wE G b ρ X fun s => wCmp op r s fun t => wTru t fun k => wIf k (wE G c ρ X fun u => wCmp op' s u Q) (Q (.d (.bool false)))
  | .isN a, ρ, X, Q => wE G a ρ X fun r => Q (.d (.bool (isNone (look r))))
  | .notN a, ρ, X, Q => wE G a ρ X fun r => Q (.d (.bool (!isNone (look r))))
  | .and a b, ρ, X, Q => wE G a ρ X fun r => wTru r fun k => wIf k (wE G b ρ X Q) (Q (.d (.bool false)))
  | .or a b, ρ, X, Q => wE G a ρ X fun r => wTru r fun k => wIf k (Q (.d (.bool true))) (wE G b ρ X Q)
  | .tup es, ρ, X, Q => wEs G es ρ X fun rs => wArgs rs fun ds => ds.length ≤ sizeLine ∧ Q (.d (.tuple ds))
  | .lst es, ρ, X, Q => wEs G es ρ X fun rs => wArgs rs fun ds => ds.length ≤ sizeLine ∧ Q (.l ds true)
  | .ix a b, ρ, X, Q => wE G a ρ X fun r => wE G b ρ X fun s => wIx r s Q
  | .sl a lo hi, ρ, X, Q => wE G a ρ X fun r => wO G lo ρ X fun l => wO G hi ρ X fun h => wSl r l h Q
  | .call f es, ρ, X, Q => wEs G es ρ X fun rs => wArgs rs fun ds => G f ds Q X
  | .bi b es, ρ, X, Q => wEs G es ρ X fun rs => wBi b rs Q
  | .isi a t, ρ, X, Q => wE G a ρ X fun r => isiOk (look r) t ∧ Q (.d (.bool (isiB (look r) t)))
  | .lc elt tg it cond own, ρ, X, Q => wI G it ρ X fun ds _ => lcLoop (stT tg) (fun ρ2 k => wCond G cond ρ2 k) (fun ρ2 k => wE G elt ρ2 (fun _ => False) k) (wip ρ (own.map (·.2))) ds [] Q
  | .sset a, ρ, X, Q => wE G a ρ X fun r => wSset r Q
  | .rvs a, ρ, X, Q => wE G a ρ X fun r => wRvs r Q
  | .isB b neg a, ρ, X, Q => wE G a ρ X fun r => wIsB b neg r Q
  | .srt a, ρ, X, Q => wE G a ρ X fun r => wSrt r Q
  | .best mx a, ρ, X, Q => wE G a ρ X fun r => wBest mx r Q
  | .tix a b, ρ, X, Q => wE G a ρ X fun r => tupOk r ∧ wE G b ρ X fun s => wTix r s Q
  | .lset a, ρ, X, Q => wE G a ρ X fun r => wLset r Q
  | .st2 k a, ρ, X, Q => wE G a ρ X fun r => wSt2 k r Q
  | .lrg a, ρ, X, Q => wE G a ρ X fun r => wLrg r Q
  | .sfd ix a b, ρ, X, Q => wE G a ρ X fun r => strOk r ∧ wE G b ρ X fun s => wSfd ix r s Q
  | .spl a b, ρ, X, Q => wE G a ρ X fun r => strOk r ∧ wE G b ρ X fun s => wSpl r s Q
  | .jn a b, ρ, X, Q => wE G a ρ X fun r => strOk r ∧ wE G b ρ X fun s => wJn r s Q
  | .lzip a b, ρ, X, Q => wE G a ρ X fun r => wE G b ρ X fun s => wZip r s fun ds _ => Q (.l ds true)
  | .lrvd a, ρ, X, Q => wE G a ρ X fun r => match look r with
    | .list ds => Q (.l ds.reverse true)
    | _ => False
  | .trvd a, ρ, X, Q => wE G a ρ X fun r => match look r with
    | .tuple ds => Q (.d (.tuple ds.reverse))
    | _ => False
  | .lix a b, ρ, X, Q => wE G a ρ X fun r => (∃ ds, look r = .list ds) ∧ wE G b ρ X fun s => wLix r s Q
def wEs (G : Nat → DSp) : Es → En → (Nat → Prop) → (List R → Prop) → Prop
  | .nil, ρ, X, Q => Q []
  | .cons e es, ρ, X, Q => wE G e ρ X fun r => wEs G es ρ X fun rs => Q (r :: rs)
def wO (G : Nat → DSp) : Es → En → (Nat → Prop) → (Option Int → Prop) → Prop
  | .nil, ρ, X, Q => Q none
  | .cons e _, ρ, X, Q => wE G e ρ X fun r => match r with
    | .d (.int i) => Q (some i)
    | _ => False
def wCond (G : Nat → DSp) : Es → En → (Bool → Prop) → Prop
  | .nil, ρ, Q => Q true
  | .cons e _, ρ, Q => wE G e ρ (fun _ => False) fun r => wTru r Q
def wI (G : Nat → DSp) : It → En → (Nat → Prop) → (List D → Bool → Prop) → Prop
  | .ex e, ρ, X, Q => wE G e ρ X fun r => match look r with
    | .list ds => Q ds (borR r)
    | .tuple ds => Q ds false
    | .str z => z.length ≤ sizeLine ∧ Q (strD z) false
    | _ => False
  | .rng1 a, ρ, X, Q => wE G a ρ X fun r => match r with
    | .d (.int j) => j ≤ sizeLine ∧ -(2 ^ 62) ≤ j ∧ Q (rngD 0 j.toNat) false
    | _ => False
  | .rng2 a b, ρ, X, Q => wE G a ρ X fun r => wE G b ρ X fun s => match r, s with
    | .d (.int i), .d (.int j) => j - i ≤ sizeLine ∧ (-(2 ^ 62) ≤ i ∧ i < 2 ^ 62 ∧ -(2 ^ 62) ≤ j ∧ j < 2 ^ 62) ∧ Q (rngD i (j - i).toNat) false
    | _, _ => False
  | .rng3 a b c, ρ, X, Q => wE G a ρ X fun r => wE G b ρ X fun s => match r, s with
    | .d (.int i), .d (.int j) => 0 < c ∧ c < 1000000 ∧ j - i ≤ sizeLine ∧ (-(2 ^ 62) ≤ i ∧ i < 2 ^ 61 ∧ -(2 ^ 62) ≤ j ∧ j < 2 ^ 61) ∧ Q (rngC i c ((j - i + c - 1) / c).toNat) false
    | _, _ => False
  | .enu e, ρ, X, Q => wE G e ρ X fun r => match look r with
    | .list ds => Q (enumD ds) (borR r)
    | .tuple ds => Q (enumD ds) false
    | _ => False
  | .zip a b, ρ, X, Q => wE G a ρ X fun r => wE G b ρ X fun s => wZip r s Q
  | .rvd e, ρ, X, Q => wE G e ρ X fun r => match look r with
    | .list ds => Q ds.reverse (borR r)
    | .tuple ds => Q ds.reverse false
    | _ => False
end
structure Tb where
  fn : Nat → Str
  xc : Nat → Str
  gl : Nat → Str
  gls : List Nat
  fns : List Nat
  xcs : List Nat
  xks : List Nat := []
  nn : Bool := false
def bname : Bi → String
  | .len => "len" | .abs => "abs" | .max1 => "max" | .min1 => "min" | .max2 => "max" | .min2 => "min" | .sum1 => "sum" | .all1 => "all" | .any1 => "any"
  | .list1 => "list" | .tuple1 => "tuple" | .int1 => "int" | .str1 => "str"
def bIsTy : Bi → Bool
  | .list1 => true | .tuple1 => true | .int1 => true | .str1 => true | _ => false
def isLoc (k : Option NameKind) : Bool := match k with
  | some .local => true
  | some .cell => true
  | _ => false
def isVis (k : Option NameKind) : Bool := match k with
  | some .local => true
  | some .cell => true
  | some .free => true
  | _ => false
def isGlb (k : Option NameKind) : Bool := match k with
  | some .globalImplicit => true
  | _ => false
def ckN (N : List Str) (i : Nat) (x : Str) : Bool := decide (N[i]? = some x)
def dbg (x : Str) : Bool := !(x == ("__debug__" : Str)) && !(x == ("__classdict__" : Str))
def ckV (N : List Str) (sc : Scope) (i : Nat) (x : Str) : Bool := ckN N i x && isVis (sc.names.lookup x) && dbg x
def ckG (sc : Scope) (y x : Str) : Bool := decide (x = y) && isGlb (sc.names.lookup x) && dbg x
def plainO (e : Expr) : Bool := match e with
  | .Call (.Name _ _) [] _ _ => false
  | .Starred _ _ => false
  | .Slice _ _ _ _ => false
  | _ => true
def plainX (e : Expr) : Bool := match e with
  | .Starred _ _ => false
  | .Slice _ _ _ _ => false
  | .ListComp _ _ _ _ => true
  | .SetComp _ _ _ _ => false
  | .DictComp _ _ _ _ _ => false
  | .Set _ _ _ => false
  | _ => true
def ckT (N : List Str) (sc : Scope) (ok : List Nat) (t : Tg) (e : Expr) : Bool := match t with
  | .nm i => (match e with
    | .Name x _ => ckN N i x && isLoc (sc.names.lookup x) && ok.contains i
    | _ => false)
  | .tp is => (match e with
    | .Tuple es _ _ => decide (es.length = is.length) && (es.zip is).all fun p => match p.1 with
      | .Name x _ => ckN N p.2 x && isLoc (sc.names.lookup x) && ok.contains p.2
      | _ => false
    | _ => false)
mutual
def ckE (T : Tb) (N : List Str) (cm : Bool) (sc : Scope) : E → Expr → Bool
  | .v i, x => (match x with
    | .Name x _ => ckV N sc i x
    | _ => false)
  | .non, x => (match x with
    | .Constant .none _ _ => true
    | _ => false)
  | .bl b, x => (match x with
    | .Constant (.bool c) _ _ => b == c
    | _ => false)
  | .int k, x => (match x with
    | .Constant (.int c) _ _ => decide (k = c)
    | _ => false)
  | .str k, x => (match x with
    | .Constant (.str c) _ _ => decide (k = c)
    | _ => false)
  | .gl k, x => (match x with
    | .Name x _ => T.gls.contains k && ckG sc (T.gl k) x
    | _ => false)
  | .bin op a b, x => (match x with
    | .BinOp p o q _ => decide (op = o) && ckE T N cm sc a p && ckE T N cm sc b q
    | _ => false)
  | .neg a, x => (match x with
    | .UnaryOp .USub p _ => ckE T N cm sc a p
    | _ => false)
  | .not a, x => (match x with
    | .UnaryOp .Not p _ => ckE T N cm sc a p
    | _ => false)
  | .cmp op a b, x => (match x with
    | .Compare p [o] [q] _ => decide (op = o) && plainX q && ckE T N cm sc a p && ckE T N cm sc b q
    | _ => false)
  | .chn op op' a b c, x => (match x with
    | .Compare p [o, o'] [q, r] _ => decide (op = o) && decide (op' = o') && plainX q && plainX r && ckE T N cm sc a p && ckE T N cm sc b q && ckE T N cm sc c r
    | _ => false)
  | .isN a, x => (match x with
    | .Compare p [.Is] [.Constant .none _ _] _ => ckE T N cm sc a p
    | _ => false)
  | .notN a, x => (match x with
    | .Compare p [.IsNot] [.Constant .none _ _] _ => ckE T N cm sc a p
    | _ => false)
  | .and a b, x => (match x with
    | .BoolOp .And (p :: q :: r) ps => ckE T N cm sc a p && (match r with
      | [] => ckE T N cm sc b q
      | _ => ckE T N cm sc b (.BoolOp .And (q :: r) ps))
    | _ => false)
  | .or a b, x => (match x with
    | .BoolOp .Or (p :: q :: r) ps => ckE T N cm sc a p && (match r with
      | [] => ckE T N cm sc b q
      | _ => ckE T N cm sc b (.BoolOp .Or (q :: r) ps))
    | _ => false)
  | .tup es, x => (match x with
    | .Tuple xs _ _ => ckEs T N cm sc es xs
    | _ => false)
  | .lst es, x => (match x with
    | .List xs _ => ckEs T N cm sc es xs
    | _ => false)
  | .ix a b, x => (match x with
    | .Subscript p q _ => plainX q && ckE T N cm sc a p && ckE T N cm sc b q
    | _ => false)
  | .sl a lo hi, x => (match x with
    | .Subscript p (.Slice l h none _) _ => ckE T N cm sc a p && ckO T N cm sc lo l && ckO T N cm sc hi h
    | _ => false)
  | .call f es, x => (match x with
    | .Call (.Name y _) (p :: ps) [] _ => cm && T.fns.contains f && ckG sc (T.fn f) y && ckEs T N cm sc es (p :: ps)
    | _ => false)
  | .bi b es, x => (match x with
    | .Call (.Name y _) (p :: ps) [] _ => cm && ckG sc (bname b) y && ckEs T N cm sc es (p :: ps)
    | _ => false)
  | .isi a t, x => (match x with
    | .Call (.Name y _) [p, .Name z _] [] _ => ckG sc "isinstance" y && plainX p && ckE T N cm sc a p && ckG sc t z && ["int", "bool", "str", "tuple", "list"].contains t
    | _ => false)
  | .lc elt tg it cond own, x => (match x with
    | .ListComp e [⟨t, i, ifs, 0⟩] scope _ => cm && ckIt T N cm sc it t i && blkC N sc scope own && ckT N scope (own.map (·.2)) tg t && ckE T N cm (relS scope sc) elt e && ckCond T N cm (relS scope sc) cond ifs
    | _ => false)
  | .sset a, x => (match x with
    | .Call (.Name y _) [.Call (.Name z _) [p] [] _] [] _ => cm && ckG sc "sorted" y && ckG sc "set" z && plainX p && ckE T N cm sc a p
    | _ => false)
  | .rvs a, x => (match x with
    | .Subscript p (.Slice none none (some (.UnaryOp .USub (.Constant (.int c) _ _) _)) _) _ => decide (c = 1) && ckE T N cm sc a p
    | _ => false)
  | .isB b neg a, x => (match x with
    | .Compare p [o] [.Constant (.bool c) _ _] _ => decide (c = b) && decide (o = if neg then .IsNot else .Is) && ckE T N cm sc a p
    | _ => false)
  | .srt a, x => (match x with
    | .Call (.Name y _) [p] [] _ => cm && ckG sc "sorted" y && plainX p && ckE T N cm sc a p
    | _ => false)
  | .best mx a, x => (match x with
    | .Call (.Name y _) [p] [] _ => cm && ckG sc (if mx then "max" else "min") y && plainX p && ckE T N cm sc a p
    | _ => false)
  | .tix a b, x => (match x with
    | .Call (.Attribute o name apos) [p] [] cp => decide (name = "index") && (apos.endLine == cp.line) && plainO o && plainX p && ckE T N cm sc a o && ckE T N cm sc b p
    | _ => false)
  | .lset a, x => (match x with
    | .Call (.Name y _) [.Call (.Name z _) [p] [] _] [] _ => cm && ckG sc "len" y && ckG sc "set" z && plainX p && ckE T N cm sc a p
    | _ => false)
  | .st2 k a, x => (match x with
    | .Subscript p (.Slice l none (some (.Constant (.int c) _ _)) _) _ => decide (c = 2) && (match l with
      | none => decide (k = 0)
      | some (.Constant (.int d) _ _) => decide (1 ≤ k) && decide (d = ((k - 1 : Nat) : Int))
      | _ => false) && ckE T N cm sc a p
    | _ => false)
  | .lrg a, x => (match x with
    | .Call (.Name y _) [.Call (.Name z _) [p] [] _] [] _ => cm && ckG sc "list" y && ckG sc "range" z && plainX p && ckE T N cm sc a p
    | _ => false)
  | .sfd ix a b, x => (match x with
    | .Call (.Attribute o name apos) [p] [] cp => decide (name = if ix then "index" else "find") && (apos.endLine == cp.line) && plainO o && plainX p && ckE T N cm sc a o && ckE T N cm sc b p
    | _ => false)
  | .spl a b, x => (match x with
    | .Call (.Attribute o name apos) [p] [] cp => decide (name = "split") && (apos.endLine == cp.line) && plainO o && plainX p && ckE T N cm sc a o && ckE T N cm sc b p
    | _ => false)
  | .jn a b, x => (match x with
    | .Call (.Attribute o name apos) [p] [] cp => decide (name = "join") && (apos.endLine == cp.line) && plainO o && plainX p && ckE T N cm sc a o && ckE T N cm sc b p
    | _ => false)
  | .lzip a b, x => (match x with
    | .Call (.Name y _) [.Call (.Name z _) [p, q] [] _] [] _ => cm && ckG sc "list" y && ckG sc "zip" z && plainX p && plainX q && ckE T N cm sc a p && ckE T N cm sc b q
    | _ => false)
  | .lrvd a, x => (match x with
    | .Call (.Name y _) [.Call (.Name z _) [p] [] _] [] _ => cm && ckG sc "list" y && ckG sc "reversed" z && plainX p && ckE T N cm sc a p
    | _ => false)
  | .trvd a, x => (match x with
    | .Call (.Name y _) [.Call (.Name z _) [p] [] _] [] _ => cm && ckG sc "tuple" y && ckG sc "reversed" z && plainX p && ckE T N cm sc a p
    | _ => false)
  | .lix a b, x => (match x with
    | .Call (.Attribute o name apos) [p] [] cp => decide (name = "index") && (apos.endLine == cp.line) && plainO o && plainX p && ckE T N cm sc a o && ckE T N cm sc b p
    | _ => false)
def ckEs (T : Tb) (N : List Str) (cm : Bool) (sc : Scope) : Es → List Expr → Bool
  | .nil, x => (match x with
    | [] => true
    | _ => false)
  | .cons e es, x => (match x with
    | p :: ps => plainX p && ckE T N cm sc e p && ckEs T N cm sc es ps
    | _ => false)
def ckO (T : Tb) (N : List Str) (cm : Bool) (sc : Scope) : Es → Option Expr → Bool
  | .nil, x => (match x with
    | none => true
    | _ => false)
  | .cons e es, x => (match x with
    | some p => ckE T N cm sc e p
    | _ => false)
def ckCond (T : Tb) (N : List Str) (cm : Bool) (sc : Scope) : Es → List Expr → Bool
  | .nil, x => (match x with
    | [] => true
    | _ => false)
  | .cons e es, x => (match x with
    | [p] => ckE T N cm sc e p
    | _ => false)
def ckIt (T : Tb) (N : List Str) (cm : Bool) (sc : Scope) : It → Expr → Expr → Bool
  | .ex e, t, x => plainX x && ckE T N cm sc e x
  | .rng1 a, t, x => (match x with
    | .Call (.Name y _) [p] [] _ => ckG sc "range" y && plainX p && ckE T N cm sc a p
    | _ => false)
  | .rng2 a b, t, x => (match x with
    | .Call (.Name y _) [p, q] [] _ => ckG sc "range" y && plainX p && plainX q && ckE T N cm sc a p && ckE T N cm sc b q
    | _ => false)
  | .rng3 a b c, t, x => (match x with
    | .Call (.Name y _) [p, q, .Constant (.int k) _ _] [] _ => ckG sc "range" y && decide (k = ((c : Nat) : Int)) && plainX p && plainX q && ckE T N cm sc a p && ckE T N cm sc b q
    | _ => false)
  | .enu e, t, x => (match x, t with
    | .Call (.Name y _) [p] [] _, .Tuple _ _ _ => ckG sc "enumerate" y && plainX p && ckE T N cm sc e p
    | _, _ => false)
  | .zip a b, t, x => (match x, t with
    | .Call (.Name y _) [p, q] [] _, .Tuple _ _ _ => ckG sc "zip" y && plainX p && plainX q && ckE T N cm sc a p && ckE T N cm sc b q
    | _, _ => false)
  | .rvd e, t, x => (match x with
    | .Call (.Name y _) [p] [] _ => ckG sc "reversed" y && plainX p && ckE T N cm sc e p
    | _ => false)
end
end DL
end
section
set_option maxRecDepth 100000
set_option maxHeartbeats 4000000
namespace DL
open PySem PySem.Spec PyProof.Rows L2
def clsV (K : PySem.W.Frag) (T : Tb) (c : Nat) : Value := .ref (He.ga K (T.xc c))
def lift (K : PySem.W.Frag) (T : Tb) (sp : DSp) : Sp := fun vs H Q E => ∃ (F : Hp) (ds : List D) (P : R → Prop) (PE : Nat → Prop), Same F H ∧ DqAll K F vs ds ∧ sp ds P PE ∧
  (∀ r v F' H', P r → Step F H F' H' → Same F' H' → RV K H F' H' r v → Q v H') ∧ ∀ c F' H', PE c → Step F H F' H' → Same F' H' → E (clsV K T c) none H'
def CXk (b : Bool) (P : Program) (w : World) : CXT := match b with
  | true => L2N.CX P w
  | false => L2.CX P w
def Tkk (b : Bool) (X : Cx) (W : WX) : Prop := match b with
  | true => L2N.Takes X W
  | false => L2.Takes X W
theorem xe_n {X : Cx} {W : WX} {u : Value} {s : Shared} (h : L2N.XE X W u s) : L2.XE X W u s := by
  obtain ⟨a, B, sI, pins, σ, H, cls, d, e, I, nb, up, sky, r⟩ := h
  refine ⟨a, B, sI, pins, σ, H, cls, d, e, I, nb, up, ?_, r⟩
  have tr : ∀ {h B' : Heap} {fl : Value}, HandSPX.TracedZ h B' a (L2N.Zn cls d) fl → HandSPX.TracedZ h B' a (Zc cls d) fl := fun ⟨oe, vs, T, oT, ts, he, hz, r⟩ => ⟨oe, vs, T, oT, ts, he, hz.zc, r⟩
  rcases sky with ⟨s1, s2, s3, oe, vs, s4, s5, s6⟩ | s | s
  · exact .inl ⟨s1, s2, s3, oe, vs, s4, s5.zc, s6⟩
  · exact .inr (.inl ⟨s.1, s.2.1, s.2.2.1, tr s.2.2.2⟩)
  · exact .inr (.inr ⟨s.1, s.2.1, s.2.2.1, tr s.2.2.2⟩)
theorem tk_n {X : Cx} {W : WX} (t : L2.Takes X W) : L2N.Takes X W := fun u s h => t u s (xe_n h)
theorem cx_n {P : Program} {w : World} {outer : List Env} {H : Hp} {s : Shared} {E : XK} {u : Value} {s' : Shared} (h : L2N.CX P w outer H s E u s') : L2.CX P w outer H s E u s' := by
  obtain ⟨a, B, H', cls, d, e, ⟨f1, f2, f3, oe, vs, T, oT, ts, he, hz, r⟩, r2⟩ := h
  exact ⟨a, B, H', cls, d, e, ⟨f1, f2, f3, oe, vs, T, oT, ts, he, hz.zc, r⟩, r2⟩
theorem fn_n {P : Program} {w : World} {K : PySem.W.Frag} {mg : Str → Option Value} {base : Heap} {k : Nat} {f : Addr} {fd : FuncData} {ps : List Str} {sp : Sp} (F : FnOk P w K mg base (L2N.CX P w) k f fd ps sp) : FnOk P w K mg base (L2.CX P w) k f fd ps sp :=
  ⟨F.len, fun A outer s H args us vs Q E hr he hb hv hs => codeAny_mono (F.run A outer s H args us vs Q E hr he hb hv hs) fun r s' z => match r, z with
    | .ok (.ret u), z => z
    | .error e, z => cx_n z⟩
theorem passAtk {b : Bool} {X : Cx} {W : WX} (tk : Tkk b X W) (σ : L2.St) : PassesAt (CXk b X.prog X.w) X σ (WE W σ) := by
  cases b with
  | true => exact L2N.passAt tk σ
  | false => exact L2.passAt tk σ
theorem tkk_l2 {b : Bool} {X : Cx} {W : WX} (h : b = false) (tk : Tkk b X W) : L2.Takes X W := by subst h; exact tk
theorem l2_tkk {b : Bool} {X : Cx} {W : WX} (tk : L2.Takes X W) : Tkk b X W := by
  cases b with
  | true => exact tk_n tk
  | false => exact tk
structure FnT (T : Tb) (G : Nat → DSp) (n : Nat) (X : Cx) (f : Nat) : Prop where
  ex : ∃ (k : Nat) (a : Addr) (fd : FuncData) (ps : List Str), k ≤ n ∧ FnOk X.prog X.w X.K X.mg X.base (CXk T.nn X.prog X.w) k a fd ps (lift X.K T (G f)) ∧ X.mg (T.fn f) = some (.ref a) ∧ PySem.W.keepIn X.K (.ref a) = true ∧ Binds X.K fd ps []
structure GX (T : Tb) (G : Nat → DSp) (n : Nat) (cm : Bool) (W : WX) (X : Cx) : Prop where
  room : cm = true → Room n X.A
  calm : cm = true → X.calm = true
  hu : X.A.units + 200 < cLine
  fns : ∀ f ∈ T.fns, FnT T G n X f
  gl : ∀ k ∈ T.gls, ∃ u v, X.mg (T.gl k) = some u ∧ RelV v u ∧ Dq X.K (fun _ => none) v (glD k)
  bi : ∀ b : Bi, X.mg (bname b) = none
  bo : ∀ x ∈ ["isinstance", "range", "enumerate", "zip", "reversed", "int", "bool", "str", "tuple", "list", "sorted", "set"], X.mg (Str.ofString x) = none
  tk : Tkk T.nn X W
  nd : X.N.Nodup
structure SX (K : PySem.W.Frag) (T : Tb) (W : WX) (F0 H0 F : Hp) (ρ : En) (σ : L2.St) (H : Hp) (Ex : Nat → Prop) : Prop where
  sr : SR K F0 H0 F ρ σ H
  ex : ∀ c F' H', Ex c → Step F H F' H' → Same F' H' → W (clsV K T c) none σ H'
theorem SX.step {K : PySem.W.Frag} {T : Tb} {W : WX} {F0 H0 F H F' H' : Hp} {ρ : En} {σ : L2.St} {Ex : Nat → Prop} (x : SX K T W F0 H0 F ρ σ H Ex) (s : Step F H F' H') (fh : Same F' H') : SX K T W F0 H0 F' ρ σ H' Ex :=
  ⟨x.sr.step s fh, fun c F2 H2 hc s2 f2 => x.ex c F2 H2 hc (s.trans s2) f2⟩
def tE (K : PySem.W.Frag) (T : Tb) (W : WX) (w : En → (Nat → Prop) → (R → Prop) → Prop) : TE := fun σ H Q =>
  ∃ (F0 H0 F : Hp) (ρ : En) (Ex : Nat → Prop) (P : R → Prop), SX K T W F0 H0 F ρ σ H Ex ∧ w ρ Ex P ∧ ∀ r v F' H', P r → Step F H F' H' → Same F' H' → RV K H F' H' r v → Q v H'
def RVs (K : PySem.W.Frag) (B F H : Hp) : List R → List V → Prop
  | [], vs => vs = []
  | r :: rs, vs => ∃ x xs, vs = x :: xs ∧ RV K B F H r x ∧ RVs K B F H rs xs
def tA (K : PySem.W.Frag) (T : Tb) (W : WX) (w : En → (Nat → Prop) → (List R → Prop) → Prop) : TA := fun σ H Q =>
  ∃ (F0 H0 F : Hp) (ρ : En) (Ex : Nat → Prop) (P : List R → Prop), SX K T W F0 H0 F ρ σ H Ex ∧ w ρ Ex P ∧ ∀ rs vs F' H', P rs → Step F H F' H' → Same F' H' → RVs K H F' H' rs vs → Q vs H'
def tOO (K : PySem.W.Frag) (T : Tb) (W : WX) (w : En → (Nat → Prop) → (Option Int → Prop) → Prop) : TO := fun σ H Q =>
  ∃ (F0 H0 F : Hp) (ρ : En) (Ex : Nat → Prop) (P : Option Int → Prop), SX K T W F0 H0 F ρ σ H Ex ∧ w ρ Ex P ∧ ∀ o F' H', P o → Step F H F' H' → Same F' H' → Q o H'
def JSeq (K : PySem.W.Frag) (J : L2.It) (b : Bool) (F H : Hp) (ds : List D) : Prop := ∀ F2 H2, Same F F2 → Same F2 H2 → (b = true → Same H H2) →
  (∀ i d, ds[i]? = some d → J.go i H2 ∧ ∀ x H3, J.yld i H2 x H3 → ∃ F3, Step F2 H2 F3 H3 ∧ Same F3 H3 ∧ Dq K F3 x d) ∧ J.stop ds.length H2
def tI (K : PySem.W.Frag) (T : Tb) (W : WX) (w : En → (Nat → Prop) → (List D → Bool → Prop) → Prop) : TI := fun σ H Q =>
  ∃ (F0 H0 F : Hp) (ρ : En) (Ex : Nat → Prop) (P : List D → Bool → Prop), SX K T W F0 H0 F ρ σ H Ex ∧ w ρ Ex P ∧
    ∀ ds b J F' H', P ds b → Step F H F' H' → Same F' H' → JSeq K J b F' H' ds → ds.length ≤ sizeLine → Q J H'
section
variable {X : Cx} {K : PySem.W.Frag} {T : Tb} {W : WX} {F0 H0 F H F' H' B : Hp} {ρ : En} {σ : L2.St} {Ex : Nat → Prop} {Q : VK}
theorem PE.imp {x : Expr} {t t' : TE} (h : PE X x t) (i : ∀ σ H Q, t' σ H Q → t σ H Q) : PE X x t' := ⟨fun pins s σ H Q I q => h.run pins s σ H Q I (i σ H Q q)⟩
theorem PT.imp {x : Expr} {t t' : TT} (h : PT X x t) (i : ∀ σ H Q, t' σ H Q → t σ H Q) : PT X x t' := ⟨fun pins s σ H Q I q => h.run pins s σ H Q I (i σ H Q q)⟩
theorem PW.imp {x : Expr} {t t' : TT} (h : PW X x t) (i : ∀ σ H Q, t' σ H Q → t σ H Q) : PW X x t' := ⟨fun wh pins s σ H Q I q => h.run wh pins s σ H Q I (i σ H Q q)⟩
theorem PA.imp {x : List Expr} {t t' : TA} (h : PA X x t) (i : ∀ σ H Q, t' σ H Q → t σ H Q) : PA X x t' := ⟨fun pos pins s σ H Q I q => h.run pos pins s σ H Q I (i σ H Q q)⟩
theorem PO.imp {x : Option Expr} {t t' : TO} (h : PO X x t) (i : ∀ σ H Q, t' σ H Q → t σ H Q) : PO X x t' := ⟨fun pins s σ H Q I q => h.run pins s σ H Q I (i σ H Q q)⟩
theorem PI.imp {tg x : Expr} {t t' : TI} (h : PI X tg x t) (i : ∀ σ H Q, t' σ H Q → t σ H Q) : PI X tg x t' := ⟨fun pins s σ H Q I q => h.run pins s σ H Q I (i σ H Q q)⟩
theorem tE.mono {w : En → (Nat → Prop) → (R → Prop) → Prop} {Q Q' : VK} (h : tE K T W w σ H Q) (i : ∀ v H, Q v H → Q' v H) : tE K T W w σ H Q' :=
  let ⟨a, b, c, d, e, f, sx, q, z⟩ := h
  ⟨a, b, c, d, e, f, sx, q, fun r v F' H' h1 h2 h3 h4 => i _ _ (z r v F' H' h1 h2 h3 h4)⟩
theorem tA.mono {w : En → (Nat → Prop) → (List R → Prop) → Prop} {Q Q' : List V → Hp → Prop} (h : tA K T W w σ H Q) (i : ∀ v H, Q v H → Q' v H) : tA K T W w σ H Q' :=
  let ⟨a, b, c, d, e, f, sx, q, z⟩ := h
  ⟨a, b, c, d, e, f, sx, q, fun r v F' H' h1 h2 h3 h4 => i _ _ (z r v F' H' h1 h2 h3 h4)⟩
theorem run1 {w : En → (Nat → Prop) → (R → Prop) → Prop} {k : R → Prop} (sx : SX K T W F0 H0 F ρ σ H Ex) (h : w ρ Ex k) :
    tE K T W w σ H (fun x H1 => ∃ F1 r, Step F H F1 H1 ∧ Same F1 H1 ∧ RV K H F1 H1 r x ∧ k r) :=
  ⟨F0, H0, F, ρ, Ex, k, sx, h, fun r v F' H' h1 h2 h3 h4 => ⟨F', r, h2, h3, h4, h1⟩⟩
theorem runA {w : En → (Nat → Prop) → (List R → Prop) → Prop} {k : List R → Prop} (sx : SX K T W F0 H0 F ρ σ H Ex) (h : w ρ Ex k) :
    tA K T W w σ H (fun x H1 => ∃ F1 r, Step F H F1 H1 ∧ Same F1 H1 ∧ RVs K H F1 H1 r x ∧ k r) :=
  ⟨F0, H0, F, ρ, Ex, k, sx, h, fun r v F' H' h1 h2 h3 h4 => ⟨F', r, h2, h3, h4, h1⟩⟩
theorem runO {w : En → (Nat → Prop) → (Option Int → Prop) → Prop} {k : Option Int → Prop} (sx : SX K T W F0 H0 F ρ σ H Ex) (h : w ρ Ex k) :
    tOO K T W w σ H (fun x H1 => ∃ F1, Step F H F1 H1 ∧ Same F1 H1 ∧ k x) :=
  ⟨F0, H0, F, ρ, Ex, k, sx, h, fun r F' H' h1 h2 h3 => ⟨F', h2, h3, h1⟩⟩
theorem tOO.mono {w : En → (Nat → Prop) → (Option Int → Prop) → Prop} {Q Q' : Option Int → Hp → Prop} (h : tOO K T W w σ H Q) (i : ∀ v H, Q v H → Q' v H) : tOO K T W w σ H Q' :=
  let ⟨a, b, c, d, e, f, sx, q, z⟩ := h
  ⟨a, b, c, d, e, f, sx, q, fun r F' H' h1 h2 h3 => i _ _ (z r F' H' h1 h2 h3)⟩
theorem tE_bin {wa wb : En → (Nat → Prop) → (R → Prop) → Prop} {w2 : R → R → (R → Prop) → Prop} (h : tE K T W (fun ρ Ex P => wa ρ Ex fun r => wb ρ Ex fun s => w2 r s P) σ H Q) : tOp (rB K w2) (tE K T W wa) (tE K T W wb) σ H Q := by
  obtain ⟨F0, H0, F, ρ, Ex, P, sx, h, post⟩ := h
  refine (run1 sx h).mono fun x H1 ⟨F1, r, s1, f1, v1, h1⟩ => ?_
  refine (run1 (sx.step s1 f1) h1).mono fun y H2 ⟨F2, s, s2, f2, v2, h2⟩ => ?_
  exact ⟨F2, H, r, s, P, f2, v1.step s2, v2.base s1.h, h2, fun t v F' H' hp s3 f3 v3 => post t v F' H' hp ((s1.trans s2).trans s3) f3 (v3.base (s1.h.trans s2.h))⟩
theorem tE_un {wa : En → (Nat → Prop) → (R → Prop) → Prop} {w2 : R → (R → Prop) → Prop} (h : tE K T W (fun ρ Ex P => wa ρ Ex fun r => w2 r P) σ H Q) : tUn (rU1 K w2) (tE K T W wa) σ H Q := by
  obtain ⟨F0, H0, F, ρ, Ex, P, sx, h, post⟩ := h
  refine (run1 sx h).mono fun x H1 ⟨F1, r, s1, f1, v1, h1⟩ => ?_
  exact ⟨F1, H, r, P, f1, v1, h1, fun t v F' H' hp s3 f3 v3 => post t v F' H' hp (s1.trans s3) f3 (v3.base s1.h)⟩
theorem frz_at {r : R} {v : V} {x : D} (h : RV K B F H r v) (s : Same F F') (fh : Same F' H) (e : DL.frz r = some x) : ∃ F2, Same F' F2 ∧ Same F2 H ∧ Dq K F2 v x ∧ ∀ a, B a ≠ none → F' a = none → F2 a = none := by
  cases r with
  | d y => cases e; exact ⟨F', Same.refl _, fh, dp_mono s h, fun _ _ z => z⟩
  | l ds fr =>
    cases fr with
    | false => cases e
    | true =>
      cases e
      obtain ⟨a, xs, h1, h2, h3, h4, h5⟩ := h
      subst h1
      cases q : F' a with
      | none =>
        refine ⟨upd F' a (.lst xs), same_upd q, upd_le fh h2, .lst (.inl upd_same) (dpa_mono (s.trans (same_upd q)) h3), fun b hb hf => ?_⟩
        have ne : b ≠ a := fun z => by subst z; exact hb (h5 rfl)
        rw [upd_ne ne]; exact hf
      | some o =>
        have e := fh a o q
        rw [h2] at e
        cases e
        exact ⟨F', Same.refl _, fh, .lst (.inl q) (dpa_mono s h3), fun _ _ z => z⟩
theorem frzP_ok {r : R} {v : V} {k : D → Prop} (h : RV K B F H r v) (fh : Same F H) (e : frzP r k) : ∃ F2 x, Same F F2 ∧ Same F2 H ∧ Dq K F2 v x ∧ (∀ a, B a ≠ none → F a = none → F2 a = none) ∧ k x := by
  unfold frzP at e
  cases q : frz r with
  | none => rw [q] at e; exact e.elim
  | some x =>
    rw [q] at e
    obtain ⟨F2, a, b, c, d⟩ := frz_at h (Same.refl _) fh q
    exact ⟨F2, x, a, b, c, d, e⟩
theorem args_at : ∀ {rs : List R} {vs : List V} {k : List D → Prop} {F' : Hp}, RVs K B F H rs vs → Same F F' → Same F' H → wArgs rs k → ∃ F2 ds, Same F' F2 ∧ Same F2 H ∧ DqAll K F2 vs ds ∧ (∀ a, B a ≠ none → F' a = none → F2 a = none) ∧ k ds
  | [], vs, k, F', h, s, fh, w => by
    have e : vs = [] := h
    subst e
    exact ⟨F', [], Same.refl _, fh, .nil, fun _ _ z => z, w⟩
  | r :: rs, vs, k, F', h, s, fh, w => by
    obtain ⟨x, xs, e, h1, h2⟩ := h
    subst e
    unfold wArgs frzP at w
    cases q : frz r with
    | none => rw [q] at w; exact w.elim
    | some d =>
      rw [q] at w
      obtain ⟨F2, a1, b1, c1, d1⟩ := frz_at h1 s fh q
      obtain ⟨F3, ds, a2, b2, c2, d2, e2⟩ := args_at h2 (s.trans a1) b1 w
      exact ⟨F3, d :: ds, a1.trans a2, b2, .cons (dp_mono a2 c1) c2, fun a hb hf => d2 a hb (d1 a hb hf), e2⟩
theorem step_frz {F1 H1 F2 : Hp} (s : Step F H F1 H1) (e : Same F1 F2) (z : ∀ a, H a ≠ none → F1 a = none → F2 a = none) : Step F H F2 H1 :=
  ⟨s.f.trans e, s.h, fun a h1 h2 => z a h1 (s.s a h1 h2)⟩
theorem RVs.step {rs : List R} {vs : List V} (h : RVs K B F H rs vs) (s : Step F H F' H') : RVs K B F' H' rs vs := by
  induction rs generalizing vs with
  | nil => exact h
  | cons r rs ih =>
    obtain ⟨x, xs, e, h1, h2⟩ := h
    exact ⟨x, xs, e, h1.step s, ih h2⟩
theorem RVs.base {B' : Hp} {rs : List R} {vs : List V} (h : RVs K B F H rs vs) (s : Same B' B) : RVs K B' F H rs vs := by
  induction rs generalizing vs with
  | nil => exact h
  | cons r rs ih =>
    obtain ⟨x, xs, e, h1, h2⟩ := h
    exact ⟨x, xs, e, h1.base s, ih h2⟩
def isSpec (x : Expr) : Bool := match x with
  | .UnaryOp .Not _ _ => true
  | .BoolOp _ _ _ => true
  | .IfExp _ _ _ _ => true
  | .Compare _ _ _ _ => true
  | _ => false
def isBO (x : Expr) : Bool := match x with
  | .BoolOp _ _ _ => true
  | _ => false
structure Snd (X : Cx) (x : Expr) (t : TE) : Prop where
  pe : PE X x t
  pt : PT X x (tTest t)
  pw : isBO x = true → PW X x (tTest t)
theorem isTrue_plainE {x : Expr} {env : Env} (h : isSpec x = false) : ∀ whole, isTrue x env whole = (do let v ← whole; standAt x.pos; holding [v] (truthy v)) := by
  cases x <;> first
    | (intro _; rfl)
    | (unfold isSpec at h; cases h)
    | (rename_i op _ _; cases op <;> first | (intro _; rfl) | (unfold isSpec at h; cases h))
theorem isBO_spec {x : Expr} (h : isSpec x = false) : isBO x = false := by
  cases x <;> first | rfl | (unfold isSpec at h; cases h)
theorem Snd.of {x : Expr} {t : TE} (h : PE X x t) (n : isSpec x = false) : Snd X x t :=
  ⟨h, pt_val h (isTrue_plainE n), fun z => by rw [isBO_spec n] at z; cases z⟩
theorem Snd.imp {x : Expr} {t t' : TE} (h : Snd X x t) (i : ∀ σ H Q, t' σ H Q → t σ H Q) : Snd X x t' :=
  ⟨PE.imp h.pe i, PT.imp h.pt fun σ H Q q => i σ H _ q, fun z => PW.imp (h.pw z) fun σ H Q q => i σ H _ q⟩
theorem starNo {e : Expr} {es : List Expr} {env : Env} (h : plainX e = true) : starEach (e :: es) env = (false, eval e env) :: starEach es env := by
  cases e <;> first | rfl | (unfold plainX at h; cases h)
theorem noSwap {e : Expr} {t : Option Expr} {l : Nat} {env : Env} (h : plainX e = true) (n : ∀ a b c d, e ≠ .ListComp a b c d) : swapsWith e t l env = pure false := by
  cases e <;> first | rfl | exact absurd rfl (n _ _ _ _) | (unfold plainX at h; cases h)
theorem noFold {e : Expr} {env : Env} (h : plainX e = true) : ∀ x, foldedSetIterable e env x = pure x := by
  cases e <;> first | (intro _; rfl) | (unfold plainX at h; cases h)
theorem plainIx {e : Expr} (h : plainX e = true) : PlainIx e := by
  cases e <;> first | (intro _ _; rfl) | (unfold plainX at h; cases h)
theorem noMarks {e : Expr} {op : CmpOp} (h : plainX e = true) : behindInMarks op e = false := by
  cases e <;> first | rfl | (unfold plainX at h; cases h)
theorem ba {a b : Bool} (h : (a && b) = true) : a = true ∧ b = true := Bool.and_eq_true_iff.mp h
theorem ckV_ok {N : List Str} {sc : Scope} {i : Nat} {x : Str} (h : ckV N sc i x = true) : N[i]? = some x ∧ (sc.names.lookup x = some .local ∨ sc.names.lookup x = some .cell ∨ sc.names.lookup x = some .free) ∧
    (x == ("__debug__" : Str)) = false ∧ (x == ("__classdict__" : Str)) = false := by
  unfold ckV dbg at h
  obtain ⟨h, h3⟩ := ba h
  obtain ⟨h1, h2⟩ := ba h
  obtain ⟨h4, h5⟩ := ba h3
  refine ⟨of_decide_eq_true h1, ?_, by simpa using h4, by simpa using h5⟩
  cases q : sc.names.lookup x with
  | none => rw [q] at h2; cases h2
  | some k =>
    rw [q] at h2
    cases k <;> first | exact .inl rfl | exact .inr (.inl rfl) | exact .inr (.inr rfl) | cases h2
theorem ckG_ok {sc : Scope} {y x : Str} (h : ckG sc y x = true) : x = y ∧ sc.names.lookup x = some .globalImplicit ∧ (x == ("__debug__" : Str)) = false := by
  unfold ckG dbg at h
  obtain ⟨h, h3⟩ := ba h
  obtain ⟨h1, h2⟩ := ba h
  obtain ⟨h4, h5⟩ := ba h3
  refine ⟨of_decide_eq_true h1, ?_, by simpa using h4⟩
  cases q : sc.names.lookup x with
  | none => rw [q] at h2; cases h2
  | some k =>
    rw [q] at h2
    cases k <;> first | rfl | cases h2
theorem ckEs_plain {T : Tb} {N : List Str} {cm : Bool} {sc : Scope} : ∀ {es : Es} {xs : List Expr}, ckEs T N cm sc es xs = true → ∀ (env : Env) (pos : Pos), (backTo pos (starEach xs env)).any (·.1) = false
  | .nil, [], _, _, _ => rfl
  | .nil, _ :: _, h, _, _ => by unfold ckEs at h; cases h
  | .cons e es, [], h, _, _ => by unfold ckEs at h; cases h
  | .cons e es, x :: xs, h, env, pos => by
    unfold ckEs at h
    obtain ⟨h1, h2⟩ := ba h
    obtain ⟨h3, h4⟩ := ba h1
    rw [starNo h3]
    have ih := ckEs_plain h2 env pos
    unfold backTo at ih ⊢
    rw [List.map_cons, List.any_cons, ih] <;> rfl
end
end DL
end
section
set_option maxRecDepth 100000
set_option maxHeartbeats 4000000
namespace DL
open PySem PySem.Spec PyProof.Rows L2 RZ RT
def rC (K : PySem.W.Frag) (w : List R → (R → Prop) → Prop) : List V → Hp → VK → Prop := fun vs H Q => ∃ (F B : Hp) (rs : List R) (P : R → Prop), Same F H ∧ RVs K B F H rs vs ∧ w rs P ∧
  ∀ t v F' H', P t → Step F H F' H' → Same F' H' → RV K H F' H' t v → Q v H'
section
variable {X : Cx} {K : PySem.W.Frag} {F H B : Hp}
theorem rvs1 {r : R} {vs : List V} (h : RVs K B F H [r] vs) : ∃ x, vs = [x] ∧ RV K B F H r x := by
  obtain ⟨x, xs, e, h1, h2⟩ := h
  have e2 : xs = [] := h2
  subst e2
  exact ⟨x, e, h1⟩
theorem rvs2 {r s : R} {vs : List V} (h : RVs K B F H [r, s] vs) : ∃ x y, vs = [x, y] ∧ RV K B F H r x ∧ RV K B F H s y := by
  obtain ⟨x, xs, e, h1, h2⟩ := h
  obtain ⟨y, e2, h3⟩ := rvs1 h2
  subst e2
  exact ⟨x, y, e, h1, h3⟩
theorem rv_ints {r : R} {x : V} {ns : List Int} (fh : Same F H) (h : RV K B F H r x) (e : look r = .list (ns.map .int)) : ∃ a, x = .ref a ∧ SqL K H a (ns.map V.int) := by
  obtain ⟨a, xs, e1, h1, h2⟩ := rv_list fh h e
  rw [dpa_ints h2] at h1
  exact ⟨a, e1, .inl h1⟩
theorem rv_bls {r : R} {x : V} {ns : List Bool} (fh : Same F H) (h : RV K B F H r x) (e : look r = .list (ns.map .bool)) : ∃ a, x = .ref a ∧ SqL K H a (ns.map V.bl) := by
  obtain ⟨a, xs, e1, h1, h2⟩ := rv_list fh h e
  rw [dpa_bls h2] at h1
  exact ⟨a, e1, .inl h1⟩
theorem w1_inv {w : R → (R → Prop) → Prop} {P : R → Prop} : ∀ {rs : List R}, w1 w rs P → ∃ r, rs = [r] ∧ w r P
  | [], h => False.elim h
  | [r], h => ⟨r, rfl, h⟩
  | _ :: _ :: _, h => False.elim h
theorem w2_inv {w : R → R → (R → Prop) → Prop} {P : R → Prop} : ∀ {rs : List R}, w2 w rs P → ∃ r s, rs = [r, s] ∧ w r s P
  | [], h => False.elim h
  | [_], h => False.elim h
  | [r, s], h => ⟨r, s, rfl, h⟩
  | _ :: _ :: _ :: _, h => False.elim h
theorem call1 {f : Value} {w : R → (R → Prop) → Prop} (h : ∀ (pins : List (Addr × Obj)) (s : Shared) (σ : L2.St) (H : Hp) (x : V) (us : List Value) (Q : VK) (F B : Hp) (r : R) (P : R → Prop), Inv X pins σ H s → Vals [x] us → Same F H → RV X.K B F H r x → w r P →
    (∀ t v F' H', P t → Step F H F' H' → Same F' H' → RV X.K H F' H' t v → Q v H') → wpAny (model X.prog X.w) X.A (call f us) (EP X pins σ Q) X.xe s) : CallR X f (rC X.K (w1 w)) := by
  intro pins s σ H vs us Q I r ⟨F, B, rs, P, fh, vr, hw, post⟩
  obtain ⟨r0, er, hw⟩ := w1_inv hw
  subst er
  obtain ⟨x, e0, vr'⟩ := rvs1 vr
  subst e0
  exact h pins s σ H x us Q F B r0 P I r fh vr' hw post
theorem call2 {f : Value} {w : R → R → (R → Prop) → Prop} (h : ∀ (pins : List (Addr × Obj)) (s : Shared) (σ : L2.St) (H : Hp) (x y : V) (us : List Value) (Q : VK) (F B : Hp) (r r' : R) (P : R → Prop), Inv X pins σ H s → Vals [x, y] us → Same F H → RV X.K B F H r x → RV X.K B F H r' y → w r r' P →
    (∀ t v F' H', P t → Step F H F' H' → Same F' H' → RV X.K H F' H' t v → Q v H') → wpAny (model X.prog X.w) X.A (call f us) (EP X pins σ Q) X.xe s) : CallR X f (rC X.K (w2 w)) := by
  intro pins s σ H vs us Q I r ⟨F, B, rs, P, fh, vr, hw, post⟩
  obtain ⟨r0, r1, er, hw⟩ := w2_inv hw
  subst er
  obtain ⟨x, y, e0, vr1, vr2⟩ := rvs2 vr
  subst e0
  exact h pins s σ H x y us Q F B r0 r1 P I r fh vr1 vr2 hw post
theorem bi_len : CallR X (.builtin "len") (rC X.K (w1 wLen)) := call1 fun pins s σ H x us Q F B r0 P I r fh vr w post => by
  unfold wLen at w
  split at w
  · rename_i ds e
    obtain ⟨a, xs, e1, h1, h2⟩ := rv_list fh vr e
    subst e1
    refine call_len_seq pins s σ H _ us Q I r ⟨a, xs, rfl, .inl (.inl h1), ?_⟩
    rw [dpa_len h2]
    exact post _ _ F H w Step.refl fh (Dq.int _)
  · rename_i ds e
    obtain ⟨a, xs, e1, h1, h2⟩ := rv_tup vr e
    subst e1
    refine call_len_seq pins s σ H _ us Q I r ⟨a, xs, rfl, .inr (SqT.mono fh h1), ?_⟩
    rw [dpa_len h2]
    exact post _ _ F H w Step.refl fh (Dq.int _)
  · rename_i z e
    have e1 := rv_str vr e
    subst e1
    exact call_len_str pins s σ H _ us Q I r ⟨z, rfl, w.1, post _ _ F H w.2 Step.refl fh (Dq.int _)⟩
  · exact w.elim
theorem bi_abs : CallR X (.builtin "abs") (rC X.K (w1 wAbs)) := call1 fun pins s σ H x us Q F B r0 P I r fh vr w post => by
  unfold wAbs at w
  split at w
  · have e := rv_int vr
    subst e
    exact call_abs pins s σ H _ us Q I r ⟨_, rfl, post _ _ F H w Step.refl fh (Dq.int _)⟩
  · exact w.elim
theorem bi_max1 (hc : X.calm = true) : CallR X (.builtin "max") (rC X.K (w1 wMax1)) := call1 fun pins s σ H x us Q F B r0 P I r fh vr w post => by
  obtain ⟨ns, e, hl, w⟩ := w
  obtain ⟨a, e1, h1⟩ := rv_ints fh vr e
  subst e1
  exact cr_max hc pins s σ H _ us Q I r ⟨a, ns, rfl, h1, hl, fun m h2 h3 => post _ _ F H (w m h2 h3) Step.refl fh (Dq.int _)⟩
theorem bi_min1 (hc : X.calm = true) : CallR X (.builtin "min") (rC X.K (w1 wMin1)) := call1 fun pins s σ H x us Q F B r0 P I r fh vr w post => by
  obtain ⟨ns, e, hl, w⟩ := w
  obtain ⟨a, e1, h1⟩ := rv_ints fh vr e
  subst e1
  exact cr_min hc pins s σ H _ us Q I r ⟨a, ns, rfl, h1, hl, fun m h2 h3 => post _ _ F H (w m h2 h3) Step.refl fh (Dq.int _)⟩
theorem bi_sum1 (hc : X.calm = true) : CallR X (.builtin "sum") (rC X.K (w1 wSum1)) := call1 fun pins s σ H x us Q F B r0 P I r fh vr w post => by
  obtain ⟨ns, e, w⟩ := w
  obtain ⟨a, e1, h1⟩ := rv_ints fh vr e
  subst e1
  exact cr_sum hc pins s σ H _ us Q I r ⟨a, ns, rfl, h1, post _ _ F H w Step.refl fh (Dq.int _)⟩
theorem bi_all1 (hc : X.calm = true) : CallR X (.builtin "all") (rC X.K (w1 wAll1)) := call1 fun pins s σ H x us Q F B r0 P I r fh vr w post => by
  obtain ⟨ns, e, w⟩ := w
  obtain ⟨a, e1, h1⟩ := rv_bls fh vr e
  subst e1
  exact cr_all hc pins s σ H _ us Q I r ⟨a, ns, rfl, h1, post _ _ F H w Step.refl fh (Dq.bl _)⟩
theorem bi_any1 (hc : X.calm = true) : CallR X (.builtin "any") (rC X.K (w1 wAny1)) := call1 fun pins s σ H x us Q F B r0 P I r fh vr w post => by
  obtain ⟨ns, e, w⟩ := w
  obtain ⟨a, e1, h1⟩ := rv_bls fh vr e
  subst e1
  exact cr_any hc pins s σ H _ us Q I r ⟨a, ns, rfl, h1, post _ _ F H w Step.refl fh (Dq.bl _)⟩
theorem bi_max2 (hc : X.calm = true) : CallR X (.builtin "max") (rC X.K (w2 (wII fun i j => if j > i then j else i))) := call2 fun pins s σ H x y us Q F B r0 r1 P I r fh vr vr' w post => by
  unfold wII at w
  split at w
  · have e := rv_int vr
    have e' := rv_int vr'
    subst e e'
    exact call_max2 hc pins s σ H _ us Q I r ⟨_, _, rfl, post _ _ F H w Step.refl fh (Dq.int _)⟩
  · exact w.elim
theorem bi_min2 (hc : X.calm = true) : CallR X (.builtin "min") (rC X.K (w2 (wII fun i j => if j < i then j else i))) := call2 fun pins s σ H x y us Q F B r0 r1 P I r fh vr vr' w post => by
  unfold wII at w
  split at w
  · have e := rv_int vr
    have e' := rv_int vr'
    subst e e'
    exact call_min2 hc pins s σ H _ us Q I r ⟨_, _, rfl, post _ _ F H w Step.refl fh (Dq.int _)⟩
  · exact w.elim
theorem bi_list1 : CallR X (.type "list") (rC X.K (w1 wList1)) := call1 fun pins s σ H x us Q F B r0 P I r fh vr w post => by
  unfold wList1 at w
  split at w
  · rename_i ds e
    obtain ⟨a, xs, e1, h1, h2⟩ := rv_list fh vr e
    subst e1
    exact call_list_of pins s σ H _ us Q I r ⟨a, xs, rfl, .inl (.inl h1), fun p hp => post _ _ F _ w (Step.own fh hp) (same_own fh hp) (rv_new fh hp h2)⟩
  · rename_i ds e
    obtain ⟨a, xs, e1, h1, h2⟩ := rv_tup vr e
    subst e1
    exact call_list_of pins s σ H _ us Q I r ⟨a, xs, rfl, .inr (SqT.mono fh h1), fun p hp => post _ _ F _ w (Step.own fh hp) (same_own fh hp) (rv_new fh hp h2)⟩
  · exact w.elim
theorem bi_tup1 : CallR X (.type "tuple") (rC X.K (w1 wTup1)) := call1 fun pins s σ H x us Q F B r0 P I r fh vr w post => by
  unfold wTup1 at w
  split at w
  · rename_i ds e
    obtain ⟨a, xs, e1, h1, h2⟩ := rv_list fh vr e
    subst e1
    exact call_tupX pins s σ H _ us Q I r ⟨a, xs, rfl, .inl ⟨.inl h1, fun p o ho hp => post _ _ _ _ w (Step.new fh hp) (same_new fh) (dq_new fh hp ho h2)⟩⟩
  · rename_i ds e
    obtain ⟨a, xs, e1, h1, hn, h2⟩ := rv_tupN vr e
    subst e1
    exact call_tupX pins s σ H _ us Q I r ⟨a, xs, rfl, .inr ⟨SqT.mono fh h1, post _ _ F H w Step.refl fh (Dq.tup h1 hn h2)⟩⟩
  · exact w.elim
theorem bi_int1 : CallR X (.type "int") (rC X.K (w1 wInt1)) := call1 fun pins s σ H x us Q F B r0 P I r fh vr w post => by
  unfold wInt1 at w
  split at w
  · have e := rv_int vr
    subst e
    exact call_int1 pins s σ H _ us Q I r (.inl ⟨_, rfl, post _ _ F H w Step.refl fh (Dq.int _)⟩)
  · have e := rv_bool vr
    subst e
    exact call_int1 pins s σ H _ us Q I r (.inr ⟨_, rfl, post _ _ F H w Step.refl fh (Dq.int _)⟩)
  · have e := rv_str vr rfl
    subst e
    obtain ⟨n, w1, w2, w3⟩ := w
    exact call_int_str pins s σ H _ us Q I r ⟨_, n, rfl, w1, w2, post _ _ F H w3 Step.refl fh (Dq.int _)⟩
  · exact w.elim
theorem bi_str1 : CallR X (.type "str") (rC X.K (w1 wStr1)) := call1 fun pins s σ H x us Q F B r0 P I r fh vr w post => by
  unfold wStr1 at w
  split at w
  · have e := rv_int vr
    subst e
    exact call_str_int pins s σ H _ us Q I r ⟨_, rfl, w.1, post _ _ F H w.2 Step.refl fh (Dq.str _)⟩
  · exact w.elim
theorem bi_all (b : Bi) (hc : X.calm = true) : (bIsTy b = true ∧ CallR X (.type (bname b)) (rC X.K (wBi b)) ∧ bootBuiltins (Str.ofString (bname b)) = some (.type (bname b))) ∨
    (bIsTy b = false ∧ CallR X (.builtin (bname b)) (rC X.K (wBi b)) ∧ bootBuiltins (Str.ofString (bname b)) = some (.builtin (bname b))) := by
  cases b with
  | len => exact .inr ⟨rfl, bi_len, PySem.boot_len⟩
  | abs => exact .inr ⟨rfl, bi_abs, PyProof.Rows.boot_abs⟩
  | max1 => exact .inr ⟨rfl, bi_max1 hc, PyProof.Rows.boot_max⟩
  | min1 => exact .inr ⟨rfl, bi_min1 hc, PyProof.Rows.boot_min⟩
  | max2 => exact .inr ⟨rfl, bi_max2 hc, PyProof.Rows.boot_max⟩
  | min2 => exact .inr ⟨rfl, bi_min2 hc, PyProof.Rows.boot_min⟩
  | sum1 => exact .inr ⟨rfl, bi_sum1 hc, PyProof.Rows.boot_sum⟩
  | all1 => exact .inr ⟨rfl, bi_all1 hc, PyProof.Rows.boot_all⟩
  | any1 => exact .inr ⟨rfl, bi_any1 hc, PyProof.Rows.boot_any⟩
  | list1 => exact .inl ⟨rfl, bi_list1, PyProof.Rows.boot_list⟩
  | tuple1 => exact .inl ⟨rfl, bi_tup1, PyProof.Rows.boot_tuple⟩
  | int1 => exact .inl ⟨rfl, bi_int1, PyProof.Rows.boot_int⟩
  | str1 => exact .inl ⟨rfl, bi_str1, PyProof.Rows.boot_str⟩
theorem bname_ne (b : Bi) : Str.ofString (bname b) ≠ "__name__" := by cases b <;> decide
theorem pi_seqS {tg l : Expr} {tl : TE} (hl : PE X l tl) : PI X tg l (fun σ H R => tl σ H fun x H1 => (∃ z, x = .str z ∧ R (Its z) H1) ∨ ∃ a, x = .ref a ∧ ((∃ xs, SqL X.K H1 a xs ∧ (xs.length ≤ sizeLine → R (Itl X.K a) H1)) ∨ ∃ xs, SqT X.K H1 a xs ∧ (xs.length ≤ sizeLine → R (Itt X.K a) H1))) := by
  refine ⟨fun pins s σ H R I h => ?_⟩
  refine thn (hl.run pins s σ H _ I h) fun v s1 ⟨x, H1, I1, r1, q1⟩ => ?_
  rcases q1 with ⟨z, e, q⟩ | ⟨a, e, q⟩
  · subst e
    obtain ⟨t, rfl⟩ := r1
    cases ha : z.cps.all (· < 128)
    · exact wpAny_pyIter_wide ha (pi_one (tk := s1.toks) I1 _ (turn_str _ z t "str_iterator" (.inr rfl)) ⟨_, Heap.get?_push_size _ rfl, rfl, rfl⟩ q)
    · exact wpAny_pyIter_ascii ha (pi_one (tk := s1.toks) I1 _ (turn_str _ z t "str_ascii_iterator" (.inl rfl)) ⟨_, Heap.get?_push_size _ rfl, rfl, rfl⟩ q)
  subst e
  cases r1
  rcases q with ⟨xs, hq, q⟩ | ⟨xs, hq, q⟩
  · obtain ⟨its, rv, p, hz⟩ := I1.list hq
    have q := q hz
    refine wpAny_pyIter_list p.isList ?_
    refine ⟨s1.heap.objs.size, [s1.heap.objs.size], _, _, H1, rfl, I1.kept (t' := s1.toks) fun b o e => Heap.get?_push_of_some _ e, turn_list a _, ⟨_, Heap.get?_push_size _ rfl, rfl, rfl⟩, fun b hb => ?_, q⟩
    have e : b = s1.heap.objs.size := by simpa using hb
    subst e
    exact I1.fpOk (Nat.le_refl _) (I1.hok.fresh (Nat.le_refl _))
  · obtain ⟨its, rv, p, hz⟩ := I1.tuple hq
    have q := q hz
    refine wpAny_pyIter_tuple (show s1.heap.IsTuple a its.toArray from p) ?_
    refine ⟨s1.heap.objs.size, [s1.heap.objs.size], _, _, H1, rfl, I1.kept (t' := s1.toks) fun b o e => Heap.get?_push_of_some _ e, turn_tuple a _, ⟨_, Heap.get?_push_size _ rfl, rfl, rfl⟩, fun b hb => ?_, q⟩
    have e : b = s1.heap.objs.size := by simpa using hb
    subst e
    exact I1.fpOk (Nat.le_refl _) (I1.hok.fresh (Nat.le_refl _))
theorem strD_len (z : Str) : (strD z).length = z.length := by unfold strD; rw [List.length_map, Array.length_toList]; rfl
theorem jseq_str {z : Str} : JSeq K (Its z) false F H (strD z) := fun F2 H2 s1 s2 _ => by
  refine ⟨fun i d e => ?_, by show z.cps.size ≤ _; rw [strD_len]; exact Nat.le_refl _⟩
  unfold strD at e
  rw [List.getElem?_map] at e
  cases q : z.cps.toList[i]? with
  | none => rw [q] at e; cases e
  | some c =>
    rw [q] at e
    cases e
    have hi : i < z.cps.size := by simpa using (List.getElem?_eq_some_iff.mp q).1
    refine ⟨hi, fun x H3 y => ?_⟩
    obtain ⟨e1, c', h1, h2⟩ := y
    subst e1 h2
    rw [← Array.getElem?_toList, q] at h1
    cases h1
    exact ⟨F2, Step.refl, s2, Dq.str _⟩
theorem jseq_list {a : Addr} {xs : List V} {ds : List D} (hq : SqL K F a xs) (hd : DqAll K F xs ds) : JSeq K (Itl K a) false F H ds := fun F2 H2 s1 s2 _ => by
  have q2 : SqL K H2 a xs := Same.seq s2 (Same.seq s1 hq)
  refine ⟨fun i d e => ?_, ⟨xs, q2, by rw [dpa_len hd]; exact Nat.le_refl _⟩⟩
  obtain ⟨v, h1, h2⟩ := dpa_get hd e
  refine ⟨⟨xs, v, q2, h1⟩, fun x H3 y => ?_⟩
  obtain ⟨e1, y⟩ := y
  subst e1
  have e2 := y xs q2
  rw [h1] at e2
  cases e2
  exact ⟨F2, Step.refl, s2, dp_mono s1 h2⟩
theorem jseq_listB {a : Addr} {xs : List V} {ds : List D} (hq : H a = some (.lst xs)) (hd : DqAll K F xs ds) : JSeq K (Itl K a) true F H ds := fun F2 H2 s1 s2 s3 => by
  have q2 : SqL K H2 a xs := SqL.of (s3 rfl a _ hq)
  refine ⟨fun i d e => ?_, ⟨xs, q2, by rw [dpa_len hd]; exact Nat.le_refl _⟩⟩
  obtain ⟨v, h1, h2⟩ := dpa_get hd e
  refine ⟨⟨xs, v, q2, h1⟩, fun x H3 y => ?_⟩
  obtain ⟨e1, y⟩ := y
  subst e1
  have e2 := y xs q2
  rw [h1] at e2
  cases e2
  exact ⟨F2, Step.refl, s2, dp_mono s1 h2⟩
theorem jseq_tup {a : Addr} {xs : List V} {ds : List D} (hq : SqT K F a xs) (hd : DqAll K F xs ds) : JSeq K (Itt K a) false F H ds := fun F2 H2 s1 s2 _ => by
  have q2 : SqT K H2 a xs := SqT.mono s2 (SqT.mono s1 hq)
  refine ⟨fun i d e => ?_, ⟨xs, q2, by rw [dpa_len hd]; exact Nat.le_refl _⟩⟩
  obtain ⟨v, h1, h2⟩ := dpa_get hd e
  refine ⟨⟨xs, v, q2, h1⟩, fun x H3 y => ?_⟩
  obtain ⟨e1, y⟩ := y
  subst e1
  have e2 := y xs q2
  rw [h1] at e2
  cases e2
  exact ⟨F2, Step.refl, s2, dp_mono s1 h2⟩
theorem rng_len (lo : Int) (n : Nat) : (rngD lo n).length = n := by simp [rngD]
theorem rngC_len (lo c : Int) (n : Nat) : (rngC lo c n).length = n := by simp [rngC]
theorem jseq_rngC (lo c : Int) (n : Nat) : JSeq K (Itc lo c n) false F H (rngC lo c n) := fun F2 H2 s1 s2 _ => by
  refine ⟨fun i d e => ?_, by show n ≤ _; rw [rngC_len]; exact Nat.le_refl _⟩
  have hi : i < n := by
    have := (List.getElem?_eq_some_iff.mp e).1
    rwa [rngC_len] at this
  have e1 : d = .int (lo + i * c) := by
    unfold rngC at e
    rw [List.getElem?_map, List.getElem?_range hi] at e
    exact (Option.some.inj e).symm
  subst e1
  refine ⟨hi, fun x H3 h => ?_⟩
  obtain ⟨e2, e3⟩ := h
  subst e2 e3
  exact ⟨F2, Step.refl, s2, .int _⟩
theorem cdiv_sz {d : Int} {c : Nat} (h0 : 0 < c) (h : d ≤ (sizeLine : Int)) : ((d + c - 1) / (c : Int)).toNat ≤ sizeLine := by
  have e0 : (0 : Int) < (c : Int) := by omega
  have h1 : (d + c - 1) / (c : Int) < (sizeLine : Int) + 1 := Int.ediv_lt_of_lt_mul e0 (by
    rw [Int.add_mul, Int.one_mul]
    have := Int.mul_le_mul_of_nonneg_left (show (1 : Int) ≤ (c : Int) by omega) (show (0 : Int) ≤ (sizeLine : Int) by omega)
    omega)
  omega
theorem rgC_pos {i j : Int} {c : Nat} (h0 : 0 < c) (h1 : c < 1000000) (b : -(2 ^ 62) ≤ i ∧ i < 2 ^ 61 ∧ -(2 ^ 62) ≤ j ∧ j < 2 ^ 61) : RgC i j (c : Int) ((j - i + c - 1) / c).toNat := by
  have e0 : (0 : Int) < (c : Int) := by omega
  have sz : Builtin.Range.rangeSize i j c = ((j - i + c - 1) / c).toNat := by
    unfold Builtin.Range.rangeSize
    rw [if_pos (by omega)]
    by_cases hh : i < j
    · rw [if_pos hh]
      have e : (j - i + c - 1) / (c : Int) = (j - i - 1) / c + 1 := by
        have : j - i + c - 1 = (j - i - 1) + c * 1 := by omega
        rw [this, Int.add_mul_ediv_left _ _ (by omega)]
      rw [e]
      have := Int.ediv_nonneg (show 0 ≤ j - i - 1 by omega) (show (0 : Int) ≤ c by omega)
      omega
    · rw [if_neg hh]
      have : (j - i + c - 1) / (c : Int) < 1 := Int.ediv_lt_of_lt_mul e0 (by omega)
      omega
  refine ⟨by omega, by omega, ?_, sz⟩
  unfold Builtin.Range.small
  rw [sz]
  have l1 : (j - i + c - 1) / (c : Int) < 2 ^ 63 := Int.ediv_lt_of_lt_mul e0 (by
    have : (2 : Int) ^ 63 * 1 ≤ 2 ^ 63 * c := Int.mul_le_mul_of_nonneg_left (by omega) (by decide)
    omega)
  have p1 : (c : Int) > 0 := e0
  simp only [Builtin.Range.rangeFitsLong, Bool.and_eq_true, Bool.or_eq_true, decide_eq_true_eq, beq_iff_eq]
  simp only [p1, if_true, Bool.and_eq_true, decide_eq_true_eq]
  omega
theorem jseq_rng (lo : Int) (n : Nat) : JSeq K (Itr lo n) false F H (rngD lo n) := fun F2 H2 s1 s2 _ => by
  refine ⟨fun i d e => ?_, by show n ≤ _; rw [rng_len]; exact Nat.le_refl _⟩
  have hi : i < n := by
    have := (List.getElem?_eq_some_iff.mp e).1
    rwa [rng_len] at this
  have e1 : d = .int (lo + i) := by
    unfold rngD at e
    rw [List.getElem?_map, List.getElem?_range hi] at e
    exact (Option.some.inj e).symm
  subst e1
  refine ⟨hi, fun x H3 y => ?_⟩
  obtain ⟨e1, e2⟩ := y
  subst e1 e2
  exact ⟨F2, Step.refl, s2, Dq.int _⟩
theorem jseq_revG {a : Addr} {xs : List V} {ds : List D} {b : Bool} (hd : DqAll K F xs ds) (hq : ∀ F2 H2, Same F F2 → Same F2 H2 → (b = true → Same H H2) → SqL K H2 a xs) : JSeq K (Itv K a xs.length) b F H ds.reverse := fun F2 H2 s1 s2 s3 => by
  have q2 : SqL K H2 a xs := hq F2 H2 s1 s2 s3
  have hl := dpa_len hd
  refine ⟨fun i d e => ?_, by show xs.length ≤ _; rw [List.length_reverse, hl]; exact Nat.le_refl _⟩
  have hi : i < ds.length := by
    have := (List.getElem?_eq_some_iff.mp e).1
    rwa [List.length_reverse] at this
  rw [List.getElem?_reverse hi] at e
  obtain ⟨v, h1, h2⟩ := dpa_get hd e
  rw [← hl] at h1
  refine ⟨⟨by omega, xs, v, q2, h1⟩, fun x H3 y => ?_⟩
  obtain ⟨e1, y⟩ := y
  subst e1
  have e2 := y xs q2
  rw [h1] at e2
  cases e2
  exact ⟨F2, Step.refl, s2, dp_mono s1 h2⟩
theorem jseq_revT {a : Addr} {xs : List V} {ds : List D} (hq : SqT K F a xs) (hd : DqAll K F xs ds) : JSeq K (ItvT K a xs.length) false F H ds.reverse := fun F2 H2 s1 s2 _ => by
  have q2 : SqT K H2 a xs := SqT.mono s2 (SqT.mono s1 hq)
  have hl := dpa_len hd
  refine ⟨fun i d e => ?_, by show xs.length ≤ _; rw [List.length_reverse, hl]; exact Nat.le_refl _⟩
  have hi : i < ds.length := by
    have := (List.getElem?_eq_some_iff.mp e).1
    rwa [List.length_reverse] at this
  rw [List.getElem?_reverse hi] at e
  obtain ⟨v, h1, h2⟩ := dpa_get hd e
  rw [← hl] at h1
  refine ⟨⟨by omega, xs, v, q2, h1⟩, fun x H3 y => ?_⟩
  obtain ⟨e1, y⟩ := y
  subst e1
  have e2 := y xs q2
  rw [h1] at e2
  cases e2
  exact ⟨F2, Step.refl, s2, dp_mono s1 h2⟩
theorem pair_new {F H : Hp} {p : Addr} {x y : V} {d e : D} (fh : Same F H) (hp : H p = none) (h1 : Dq K F x d) (h2 : Dq K F y e) (nt : isTp d = false) :
    ∃ F3, Step F H F3 (upd H p (.tup [x, y])) ∧ Same F3 (upd H p (.tup [x, y])) ∧ Dq K F3 (.ref p) (.tuple [d, e]) :=
  ⟨_, Step.new fh hp, same_new fh, Dq.tup (.inl (.inl upd_same)) (fun z => by rw [show hd1 [d, e] = isTp d from rfl, nt] at z; cases z) (dpa_mono (same_upd (Same.free fh hp)) (.cons h1 (.cons h2 .nil)))⟩
theorem enum_get {ds : List D} {i : Nat} {e : D} (h : (enumD ds)[i]? = some e) : ∃ d, ds[i]? = some d ∧ e = .tuple [.int i, d] := by
  unfold enumD at h
  rw [List.getElem?_zipWith] at h
  cases q : ds[i]? with
  | none => rw [q] at h; cases q2 : (List.range ds.length)[i]? <;> rw [q2] at h <;> cases h
  | some d =>
    have hi : i < ds.length := (List.getElem?_eq_some_iff.mp q).1
    rw [q, List.getElem?_range hi] at h
    exact ⟨d, rfl, (Option.some.inj h).symm⟩
theorem enum_len (ds : List D) : (enumD ds).length = ds.length := by simp [enumD]
theorem jseq_enum {a : Addr} {xs : List V} {ds : List D} {b : Bool} (hd : DqAll K F xs ds) (hq : ∀ F2 H2, Same F F2 → Same F2 H2 → (b = true → Same H H2) → SqL K H2 a xs) : JSeq K (Ite K a) b F H (enumD ds) := fun F2 H2 s1 s2 s3 => by
  have q2 : SqL K H2 a xs := hq F2 H2 s1 s2 s3
  refine ⟨fun i e he => ?_, ⟨xs, q2, by rw [dpa_len hd, enum_len]; exact Nat.le_refl _⟩⟩
  obtain ⟨d, e1, e2⟩ := enum_get he
  subst e2
  obtain ⟨v, h1, h2⟩ := dpa_get hd e1
  refine ⟨⟨xs, v, q2, h1⟩, fun x H3 y => ?_⟩
  obtain ⟨p, x', e3, hp, e4, y⟩ := y
  have e5 := y xs q2
  rw [h1] at e5
  cases e5
  subst e3 e4
  exact pair_new s2 hp (Dq.int _) (dp_mono s1 h2) rfl
theorem zip_get {ds es : List D} {i : Nat} {e : D} (h : (zipD ds es)[i]? = some e) : ∃ d d', ds[i]? = some d ∧ es[i]? = some d' ∧ e = .tuple [d, d'] := by
  unfold zipD at h
  rw [List.getElem?_zipWith] at h
  cases q : ds[i]? with
  | none => rw [q] at h; cases h
  | some d =>
    cases q2 : es[i]? with
    | none => rw [q, q2] at h; cases h
    | some d' =>
      rw [q, q2] at h
      exact ⟨d, d', rfl, rfl, (Option.some.inj h).symm⟩
theorem zip_len (ds es : List D) : (zipD ds es).length = min ds.length es.length := by simp [zipD]
theorem jseq_zipS {a a' : Addr} {ta tb : Bool} {xs ys : List V} {ds es : List D} {b : Bool} (hd : DqAll K F xs ds) (he : DqAll K F ys es) (hq : ∀ F2 H2, Same F F2 → Same F2 H2 → (b = true → Same H H2) → SqS K H2 ta a xs ∧ SqS K H2 tb a' ys) : JSeq K (ItzS K ta tb a a') b F H (zipD ds es) := fun F2 H2 s1 s2 s3 => by
  obtain ⟨q2, q3⟩ := hq F2 H2 s1 s2 s3
  refine ⟨fun i e hz => ?_, ⟨xs, ys, q2, q3, by rw [dpa_len hd, dpa_len he, zip_len]⟩⟩
  obtain ⟨d, d', e1, e1', e2⟩ := zip_get hz
  subst e2
  obtain ⟨v, h1, h2⟩ := dpa_get hd e1
  obtain ⟨v', g1, g2⟩ := dpa_get he e1'
  refine ⟨⟨xs, ys, v, v', q2, q3, h1, g1⟩, fun x H3 y => ?_⟩
  obtain ⟨p, x', y', o, e3, hp, ho, e4, y1, y2⟩ := y
  have e5 := y1 xs q2
  have e6 := y2 ys q3
  rw [h1] at e5
  rw [g1] at e6
  cases e5
  cases e6
  subst e3 e4
  exact ⟨_, Step.new s2 hp, same_new s2, dq_new s2 hp ho (.cons (dp_mono s1 h2) (.cons (dp_mono s1 g2) .nil))⟩
end
end DL
end
section
set_option maxRecDepth 100000
set_option maxHeartbeats 4000000
namespace DL
open PySem PySem.Spec PyProof.Rows L2 RZ RT
section
variable {X : Cx} {K : PySem.W.Frag} {T : Tb} {G : Nat → DSp} {W : WX} {F0 H0 F H B : Hp} {ρ : En} {σ : L2.St} {n : Nat} {cm : Bool}
theorem wTru_inv {r : R} {k : Bool → Prop} (h : wTru r k) : ∃ b, r = .d (.bool b) ∧ k b := by
  unfold wTru at h
  split at h
  · exact ⟨_, rfl, h⟩
  · exact h.elim
theorem isNone_rv {r : R} {x : V} (h : RV K B F H r x) : decide (x = V.non) = isNone (look r) := by
  cases r with
  | d d =>
    cases (show Dq K F x d from h) with
    | non => rfl
    | _ => rfl
  | l ds fr =>
    obtain ⟨a, xs, e, _⟩ := h
    subst e
    rfl
theorem Gl_of {x : Str} (h : X.env.scope.names.lookup x = some .globalImplicit) : Gl X x := h
theorem pos_call {T : Tb} {N : List Str} {sc : Scope} {cm : Bool} {es : Es} {x : Expr} {xs : List Expr} (h : ckEs T N cm sc es (x :: xs) = true) (env : Env) (pos : Pos) : plainX x = true ∧ (backTo pos (starEach xs env)).any (·.1) = false := by
  cases es with
  | nil => unfold ckEs at h; cases h
  | cons e es =>
    unfold ckEs at h
    obtain ⟨h1, h2⟩ := ba h
    exact ⟨(ba h1).1, ckEs_plain h2 env pos⟩
theorem ty_ok {t : String} (h : ["int", "bool", "str", "tuple", "list"].contains t = true) : bootBuiltins (Str.ofString t) = some (.type t) ∧ Str.ofString t ≠ "__name__" ∧ Str.ofString t ∈ ["isinstance", "range", "enumerate", "zip", "reversed", "int", "bool", "str", "tuple", "list"].map Str.ofString := by
  have e : t = "int" ∨ t = "bool" ∨ t = "str" ∨ t = "tuple" ∨ t = "list" := by simpa using h
  rcases e with e | e | e | e | e <;> subst e
  · exact ⟨PyProof.Rows.boot_int, by decide, by decide⟩
  · exact ⟨PyProof.Rows.boot_bool, by decide, by decide⟩
  · exact ⟨PyProof.Rows.boot_str, by decide, by decide⟩
  · exact ⟨PyProof.Rows.boot_tuple, by decide, by decide⟩
  · exact ⟨PyProof.Rows.boot_list, by decide, by decide⟩
theorem tyX_of {x : V} {d : D} (h : Dq K H x d) : TyX K H x (.type (tyD d)) := by
  cases h with
  | non => exact .base .non
  | bl b => exact .base (.bl b)
  | int i => exact .base (.int i)
  | str z => exact .base (.str z)
  | lst h1 h2 =>
    rcases h1 with h1 | ⟨o, h1⟩
    · exact .base (.lst h1)
    · exact .base (.frz h1)
  | tup h1 hn h2 =>
    rcases h1 with (h1 | ⟨o, h1⟩) | ⟨o, its, n, h1, h2, h3⟩
    · exact .base (.tup h1)
    · exact .fTuple h1
    · exact .kTuple h1 h2
theorem wipe_set {σ : L2.St} {i : Nat} {v : Option V} : ∀ {vs : List Nat}, i ∈ vs → wipe (σ.set i v) vs = wipe σ vs
  | [], h => by cases h
  | w :: vs, h => by
    unfold wipe
    by_cases e : i ∈ vs
    · rw [wipe_set e]
    · have e2 : i = w := by
        rcases List.mem_cons.mp h with z | z
        · exact z
        · exact absurd z e
      subst e2
      have go : ∀ ws : List Nat, i ∉ ws → wipe (σ.set i v) ws = (wipe σ ws).set i v := by
        intro ws
        induction ws with
        | nil => intro _; rfl
        | cons w ws ih =>
          intro hn
          unfold wipe
          rw [ih fun z => hn (List.mem_cons_of_mem _ z), List.set_comm _ _ (fun z => hn (by rw [z]; exact List.mem_cons_self))]
      rw [go vs e, List.set_set]
def gT (K : PySem.W.Frag) : Tg → TG
  | .nm i => gName i
  | .tp is => gTup K is.length (is.foldr (fun i t => gCons (gName i) t) gNil)
theorem pgs_of {sc : Scope} (g : ∀ x, isLoc (sc.names.lookup x) = true → Loc X.env.scope x ∧ (X.fn x = true ∨ X.env.scope.names.lookup x = some .local)) (nd : X.N.Nodup) {ok : List Nat} : ∀ {is : List Nat} {es : List Expr}, es.length = is.length → ((es.zip is).all fun p => match p.1 with
      | .Name x _ => ckN X.N p.2 x && isLoc (sc.names.lookup x) && ok.contains p.2
      | _ => false) = true → PGs X es (is.foldr (fun i t => gCons (gName i) t) gNil) ∧ (assignEach es X.env).length = is.length ∧ (assignEach es X.env).findIdx? (·.1) = none
  | [], [], _, _ => ⟨pgs_nil, rfl, rfl⟩
  | [], _ :: _, h, _ => by simp at h
  | _ :: _, [], h, _ => by simp at h
  | i :: is, e :: es, h, c => by
    rw [List.zip_cons_cons, List.all_cons] at c
    obtain ⟨c1, c2⟩ := ba c
    obtain ⟨h1, h2, h3⟩ := pgs_of g nd (is := is) (es := es) (by simpa using h) c2
    cases e with
    | Name x pos =>
      have c1 : (ckN X.N i x && isLoc (sc.names.lookup x) && ok.contains i) = true := c1
      obtain ⟨c3, c4⟩ := ba c1
      obtain ⟨c5, c6⟩ := ba c3
      obtain ⟨l1, l2⟩ := g _ c6
      refine ⟨pgs_cons (pg_name nd (of_decide_eq_true c5) l1 l2) h1, ?_, ?_⟩
      · show (_ :: assignEach es X.env).length = _
        rw [List.length_cons, List.length_cons, h2]
      · show ((false, assign (.Name x pos) X.env) :: assignEach es X.env).findIdx? (·.1) = none
        rw [List.findIdx?_cons, h3] <;> rfl
    | _ => cases c1
theorem pg_of {sc : Scope} (g : ∀ x, isLoc (sc.names.lookup x) = true → Loc X.env.scope x ∧ (X.fn x = true ∨ X.env.scope.names.lookup x = some .local)) (nd : X.N.Nodup) (hc : X.calm = true) {ok : List Nat} {t : Tg} {e : Expr} (h : ckT X.N sc ok t e = true) : PG X e (gT X.K t) := by
  cases t with
  | nm i =>
    unfold ckT at h
    cases e with
    | Name x pos =>
      have h : (ckN X.N i x && isLoc (sc.names.lookup x) && ok.contains i) = true := h
      obtain ⟨c3, c4⟩ := ba h
      obtain ⟨c5, c6⟩ := ba c3
      obtain ⟨l1, l2⟩ := g _ c6
      exact pg_name nd (of_decide_eq_true c5) l1 l2
    | _ => cases h
  | tp is =>
    unfold ckT at h
    cases e with
    | Tuple es k pos =>
      obtain ⟨c1, c2⟩ := ba h
      obtain ⟨h1, h2, h3⟩ := pgs_of g nd (of_decide_eq_true c1) c2
      exact pg_tup hc h1 h2 h3
    | _ => cases h
theorem gT_all (sr : SR K F0 H0 F ρ σ H) : ∀ {is : List Nat} {ds : List D} {xs : List V} {ρ' : En} {Q : L2.St → Hp → Prop}, DqAll K F xs ds → setAll ρ is ds = some ρ' → SR K F0 H0 F ρ σ H → (∀ σ', SR K F0 H0 F ρ' σ' H → (∀ vs, (∀ i ∈ is, i ∈ vs) → wipe σ' vs = wipe σ vs) → Q σ' H) →
    (is.foldr (fun i t => gCons (gName i) t) gNil) xs σ H Q := by
  intro is
  induction is generalizing ρ σ with
  | nil =>
    intro ds xs ρ' Q hd e s k
    cases ds with
    | nil =>
      cases hd
      cases e
      exact ⟨rfl, k σ s fun _ _ => rfl⟩
    | cons d ds => cases e
  | cons i is ih =>
    intro ds xs ρ' Q hd e s k
    cases ds with
    | nil => cases e
    | cons d ds =>
      cases hd with
      | cons h1 h2 =>
        rename_i v vs
        refine ⟨v, vs, rfl, ?_⟩
        show (is.foldr (fun i t => gCons (gName i) t) gNil) vs (σ.set i (some v)) H Q
        refine ih (s.setD h1 i) h2 e (s.setD h1 i) fun σ' s' w => k σ' s' fun ws hw => ?_
        rw [w ws fun j hj => hw j (List.mem_cons_of_mem _ hj)]
        exact wipe_set (hw i List.mem_cons_self)
theorem gT_ok (sr : SR K F0 H0 F ρ σ H) {t : Tg} {x : V} {d : D} (hx : Dq K F x d) {k : En → Prop} (h : stT t d ρ k) {Q : L2.St → Hp → Prop}
    (q : ∀ ρ' σ', SR K F0 H0 F ρ' σ' H → k ρ' → (∀ vs, (∀ i ∈ t.slots, i ∈ vs) → wipe σ' vs = wipe σ vs) → Q σ' H) : gT K t x σ H Q := by
  cases t with
  | nm i => exact q _ _ (sr.setD hx i) h fun vs hv => wipe_set (hv i (List.mem_singleton.mpr rfl))
  | tp is =>
    unfold stT at h
    cases hx with
    | tup h1 hn h2 =>
      rename_i a xs ds
      have h : (match setAll ρ is ds with
        | some ρ' => k ρ'
        | none => False) := h
      cases e : setAll ρ is ds with
      | none => rw [e] at h; exact h.elim
      | some ρ' =>
        rw [e] at h
        have hl : ∀ {is : List Nat} {ds : List D} {ρ ρ' : En}, setAll ρ is ds = some ρ' → is.length = ds.length := by
          intro is
          induction is with
          | nil => intro ds ρ ρ' e; cases ds with
            | nil => rfl
            | cons _ _ => cases e
          | cons i is ih => intro ds ρ ρ' e; cases ds with
            | nil => cases e
            | cons d ds => rw [List.length_cons, List.length_cons, ih (ds := ds) e]
        refine ⟨a, xs, rfl, SqT.mono sr.fh h1, by rw [dpa_len h2, hl e], ?_⟩
        exact gT_all sr h2 e sr fun σ' s' w => q ρ' σ' s' h w
    | _ => exact h.elim
theorem ckT_own {N : List Str} {sc : Scope} {ok : List Nat} {t : Tg} {e : Expr} (h : ckT N sc ok t e = true) : ∀ i ∈ t.slots, i ∈ ok := by
  cases t with
  | nm i =>
    unfold ckT at h
    cases e with
    | Name x pos =>
      have h : (ckN N i x && isLoc (sc.names.lookup x) && ok.contains i) = true := h
      intro j hj
      rw [List.mem_singleton.mp hj]
      simpa using (ba h).2
    | _ => cases h
  | tp is =>
    unfold ckT at h
    cases e with
    | Tuple es k pos =>
      obtain ⟨c1, c2⟩ := ba h
      have hl : es.length = is.length := of_decide_eq_true c1
      show ∀ i ∈ is, i ∈ ok
      clear h c1
      induction is generalizing es with
      | nil => intro i hi; cases hi
      | cons j is ih =>
        cases es with
        | nil => simp at hl
        | cons e es =>
          rw [List.zip_cons_cons, List.all_cons] at c2
          obtain ⟨d1, d2⟩ := ba c2
          intro i hi
          rcases List.mem_cons.mp hi with z | z
          · subst z
            cases e with
            | Name x pos =>
              have d1 : (ckN N i x && isLoc (sc.names.lookup x) && ok.contains i) = true := d1
              simpa using (ba d1).2
            | _ => cases d1
          · exact ih (es := es) d2 (by simpa using hl) i z
    | _ => cases h
end
end DL
end
section
set_option maxRecDepth 100000
set_option maxHeartbeats 4000000
namespace DL
open PySem PySem.Spec PyProof.Rows L2 RZ RT
section
variable {X : Cx} {K : PySem.W.Frag} {T : Tb} {G : Nat → DSp} {W : WX} {F0 H0 F H B F1 H1 Fc Hc F' H' : Hp} {ρ : En} {σ : L2.St} {n : Nat} {cm : Bool} {p : Addr} {acc : List V} {accD : List D}
theorem set_same {α : Type} {l : List (Option α)} {i : Nat} (h : ∀ x, l[i]? ≠ some (some x)) : l.set i none = l := by
  apply List.ext_getElem?
  intro j
  by_cases e : i = j
  · subst e
    rw [List.getElem?_set, if_pos rfl]
    cases q : l[i]? with
    | none =>
      have : ¬ i < l.length := fun z => by rw [List.getElem?_eq_getElem z] at q; cases q
      rw [if_neg this]
    | some v =>
      rw [if_pos (List.getElem?_eq_some_iff.mp q).1]
      cases v with
      | none => rfl
      | some x => exact absurd q (h x)
  · rw [List.getElem?_set_ne e]
theorem wipe_wipe (σ : L2.St) (vs : List Nat) : wipe (wipe σ vs) vs = wipe σ vs := by
  have go : ∀ ws : List Nat, (∀ w ∈ ws, w ∈ vs) → wipe (wipe σ vs) ws = wipe σ vs := by
    intro ws
    induction ws with
    | nil => intro _; rfl
    | cons w ws ih =>
      intro h
      show (wipe (wipe σ vs) ws).set w none = _
      rw [ih fun z hz => h z (List.mem_cons_of_mem _ hz)]
      exact set_same fun x z => (wipe_some z).2 (h w List.mem_cons_self)
  exact go vs fun _ h => h
structure LS (K : PySem.W.Frag) (F1 H1 Fc Hc : Hp) (p : Addr) (acc : List V) (accD : List D) : Prop where
  s : Step F1 H1 Fc Hc
  f : Same Fc Hc
  at_ : Hc p = some (.lst acc)
  off : Fc p = none
  d : DqAll K Fc acc accD
theorem LS.step (x : LS K F1 H1 Fc Hc p acc accD) (s : Step Fc Hc F' H') (f : Same F' H') : LS K F1 H1 F' H' p acc accD :=
  ⟨x.s.trans s, f, s.h _ _ x.at_, s.s p (ne_none_of x.at_) x.off, dpa_mono s.f x.d⟩
theorem LS.push (x : LS K F1 H1 Fc Hc p acc accD) (h1 : H1 p = none) {F2 : Hp} {y : V} {d : D} (e : Same Fc F2) (f : Same F2 Hc) (z : ∀ a, H1 a ≠ none → F1 a = none → F2 a = none) (zp : F2 p = none) (hy : Dq K F2 y d) :
    LS K F1 H1 F2 (upd Hc p (.lst (acc ++ [y]))) p (acc ++ [y]) (accD ++ [d]) :=
  ⟨⟨x.s.f.trans e, fun a o q => by rw [upd_ne (ne_of_none q h1)]; exact x.s.h a o q, z⟩, fun a o q => by rw [upd_ne (ne_of_none q zp)]; exact f a o q, upd_same, zp, dpa_app (dpa_mono e x.d) (.cons hy .nil)⟩
abbrev W0 : WX := fun _ _ _ _ => False
def tCd (K : PySem.W.Frag) (T : Tb) (G : Nat → DSp) : Es → TT
  | .nil => tYes
  | .cons e _ => tTest (tE K T W0 (wE G e))
theorem gx_blk (g : GX T G n cm W X) {s : Shared} {H : Hp} {scope : Scope} {C : Addr} {cl : List (Str × Addr)} {fp : List Addr} : GX T G n cm W0 (X.blk s H scope (compEnvC scope cl C X.env) fp) where
  room := g.room
  calm := g.calm
  hu := g.hu
  fns := fun f hf => let ⟨k, a, fd, ps, h1, h2, h3, h4, h5⟩ := (g.fns f hf).ex; ⟨k, a, fd, ps, h1, h2, h3, h4, h5⟩
  gl := g.gl
  bi := g.bi
  bo := g.bo
  tk := l2_tkk takes0
  nd := g.nd
theorem blk_loc {s : Shared} {H : Hp} {scope : Scope} {C : Addr} {cl : List (Str × Addr)} {fp : List Addr} : ∀ x, isLoc (scope.names.lookup x) = true →
    Loc (X.blk s H scope (compEnvC scope cl C X.env) fp).env.scope x ∧ ((X.blk s H scope (compEnvC scope cl C X.env) fp).fn x = true ∨ (X.blk s H scope (compEnvC scope cl C X.env) fp).env.scope.names.lookup x = some .local) := fun x h => by
  cases q : scope.names.lookup x with
  | none => rw [q] at h; cases h
  | some k =>
    rw [q] at h
    cases k with
    | «local» =>
      have e := lookup_relS_keep (sc := X.env.scope) (k := .local) (by decide) q
      exact ⟨.inl e, .inr e⟩
    | cell =>
      have e := lookup_relS_keep (sc := X.env.scope) (k := .cell) (by decide) q
      refine ⟨.inr e, .inl ?_⟩
      show (scope.names.lookup x == some .cell) = true
      rw [q]
      rfl
    | _ => cases h
theorem sLc {elt tg iter : Expr} {ifs : List Expr} {scope : Scope} {own : List (Str × Nat)} {pos : Pos} {e : E} {t : Tg} {it : It} {cd : Es} (g : GX T G n cm W X) (hc : X.calm = true) (hi : PI X tg iter (tI X.K T W (wI G it))) (ok : BlkOk X.N X.env.scope scope own)
    (hg : ∀ (s : Shared) (H : Hp) (C : Addr) (cl : List (Str × Addr)) (fp : List Addr), PG (X.blk s H scope (compEnvC scope cl C X.env) fp) tg (gT X.K t))
    (ht : ∀ (s : Shared) (H : Hp) (C : Addr) (cl : List (Str × Addr)) (fp : List Addr), PTs (X.blk s H scope (compEnvC scope cl C X.env) fp) ifs (tCd X.K T G cd))
    (he : ∀ (s : Shared) (H : Hp) (C : Addr) (cl : List (Str × Addr)) (fp : List Addr), PE (X.blk s H scope (compEnvC scope cl C X.env) fp) elt (tE X.K T W0 (wE G e)))
    (hs : ∀ x, foldedSetIterable iter X.env x = pure x) (ho : ∀ i ∈ t.slots, i ∈ own.map (·.2))
    {σ : L2.St} {H : Hp} {Q : VK} (h : tE X.K T W (wE G (.lc e t it cd own)) σ H Q) : tLc (tI X.K T W (wI G it)) (gT X.K t) (tCd X.K T G cd) (tE X.K T W0 (wE G e)) (own.map (·.2)) σ H Q := by
  obtain ⟨F0, H0, F, ρ, Ex, P, sx, h, post⟩ := h
  unfold wE at h
  refine ⟨F0, H0, F, ρ, Ex, _, sx, h, fun ds b J F1 H1 hl s1 f1 js hz p hp => ?_⟩
  refine ⟨fun i m Hc => m = ds.length - i ∧ i ≤ ds.length ∧ ∃ Fc acc accD, LS X.K F1 H1 Fc Hc p acc accD ∧ acc.length ≤ i ∧ lcLoop (stT t) (fun ρ2 k => wCond G cd ρ2 k) (fun ρ2 k => wE G e ρ2 (fun _ => False) k) (wip ρ (own.map (·.2))) (ds.drop i) accD P,
    ⟨ds.length, by simp, Nat.zero_le _, F1, [], [], ⟨Step.own f1 hp, same_own f1 hp, upd_same, Same.free f1 hp, .nil⟩, Nat.le_refl _, by simpa using hl⟩, ?_⟩
  rintro i m Hc ⟨rfl, hi2, Fc, acc, accD, ls, hal, hw⟩
  have j2 := js Fc Hc ls.s.f ls.f fun _ => ls.s.h
  by_cases hlt : i < ds.length
  · obtain ⟨d, hd⟩ : ∃ d, ds[i]? = some d := ⟨ds[i], List.getElem?_eq_getElem hlt⟩
    obtain ⟨go, yl⟩ := j2.1 i d hd
    have ed : ds.drop i = d :: ds.drop (i + 1) := by
      rw [List.drop_eq_getElem_cons hlt]
      rw [List.getElem?_eq_getElem hlt] at hd
      rw [Option.some.inj hd]
    rw [ed] at hw
    refine .inr ⟨go, fun H' => ∃ Fc acc accD, LS X.K F1 H1 Fc H' p acc accD ∧ acc.length ≤ i + 1 ∧ lcLoop (stT t) (fun ρ2 k => wCond G cd ρ2 k) (fun ρ2 k => wE G e ρ2 (fun _ => False) k) (wip ρ (own.map (·.2))) (ds.drop (i + 1)) accD P,
      fun H' q => ⟨_, by omega, rfl, by omega, q⟩, fun x H3 y => ?_⟩
    obtain ⟨F3, s3, f3, hx⟩ := yl x H3 y
    have ls3 := ls.step s3 f3
    have sr3 : SR X.K F0 H0 F3 (wip ρ (own.map (·.2))) (wipe σ (own.map (·.2))) H3 := ((sx.sr.step s1 f1).step ls3.s f3).wip _
    refine gT_ok sr3 hx hw fun ρ' σ' sr' hw' wv => ⟨by rw [wv _ ho, wipe_wipe], ?_⟩
    have sx' : SX X.K T W0 F0 H0 F3 ρ' σ' H3 (fun _ => False) := ⟨sr', fun _ _ _ z => z.elim⟩
    have fin : ∀ F4 H4, Step F3 H3 F4 H4 → Same F4 H4 → ∀ b : Bool, wIf b (wE G e ρ' (fun _ => False) (fun r => frzP r fun y => lcLoop (stT t) (fun ρ2 k => wCond G cd ρ2 k) (fun ρ2 k => wE G e ρ2 (fun _ => False) k) (wip ρ (own.map (·.2))) (ds.drop (i + 1)) (accD ++ [y]) P))
        (lcLoop (stT t) (fun ρ2 k => wCond G cd ρ2 k) (fun ρ2 k => wE G e ρ2 (fun _ => False) k) (wip ρ (own.map (·.2))) (ds.drop (i + 1)) accD P) →
        (if b = true then tE X.K T W0 (wE G e) σ' H4 (fun y H5 => ∃ acc, H5 p = some (.lst acc) ∧ acc.length < sizeLine ∧ ∃ Fc acc' accD, LS X.K F1 H1 Fc (upd H5 p (.lst (acc ++ [y]))) p acc' accD ∧ acc'.length ≤ i + 1 ∧ lcLoop (stT t) (fun ρ2 k => wCond G cd ρ2 k) (fun ρ2 k => wE G e ρ2 (fun _ => False) k) (wip ρ (own.map (·.2))) (ds.drop (i + 1)) accD P)
        else ∃ Fc acc accD, LS X.K F1 H1 Fc H4 p acc accD ∧ acc.length ≤ i + 1 ∧ lcLoop (stT t) (fun ρ2 k => wCond G cd ρ2 k) (fun ρ2 k => wE G e ρ2 (fun _ => False) k) (wip ρ (own.map (·.2))) (ds.drop (i + 1)) accD P) := fun F4 H4 s4 f4 b hb => by
      have ls4 := ls3.step s4 f4
      cases b with
      | false =>
        have hb := wIf_f hb
        rw [if_neg Bool.false_ne_true]
        exact ⟨F4, acc, accD, ls4, by omega, hb⟩
      | true =>
        have hb := wIf_t hb
        rw [if_pos rfl]
        refine (run1 (sx'.step s4 f4) hb).mono fun y H5 ⟨F5, r, s5, f5, v5, h5⟩ => ?_
        have ls5 := ls4.step s5 f5
        obtain ⟨F6, yd, a1, a2, a3, a4, a5⟩ := frzP_ok v5 f5 h5
        refine ⟨acc, ls5.at_, by omega, F6, acc ++ [y], accD ++ [yd], ls5.push hp a1 a2 (fun a h1 h2 => a4 a (Same.nn ls4.s.h h1) (ls5.s.s a h1 h2)) (a4 p (ne_none_of ls4.at_) ls5.off) a3, by rw [List.length_append]; simp; omega, a5⟩
    cases cd with
    | nil => exact fin F3 H3 Step.refl f3 true (show wIf true _ _ from hw')
    | cons c cs =>
      have hw' : wE G c ρ' (fun _ => False) (fun r => wTru r fun b => wIf b _ _) := hw'
      show tE X.K T W0 (wE G c) σ' H3 _
      refine (run1 sx' hw').mono fun x4 H4 ⟨F4, r, s4, f4, v4, h4⟩ => ?_
      obtain ⟨b, e1, h4⟩ := wTru_inv h4
      subst e1
      exact ⟨b, rv_bool v4, fin F4 H4 s4 f4 b h4⟩
  · have e1 : i = ds.length := by omega
    subst e1
    refine .inl ⟨j2.2, ?_⟩
    rw [List.drop_length] at hw
    exact post (.l accD true) (.ref p) Fc Hc hw (s1.trans ls.s) ls.f ⟨p, acc, rfl, ls.at_, ls.d, ls.off, fun _ => Same.free s1.h hp⟩
end
end DL
end
section
set_option maxRecDepth 100000
set_option maxHeartbeats 4000000
namespace DL
open PySem PySem.Spec PyProof.Rows L2
theorem enum_made {v : Value} {o : Obj} {H : Heap → Prop} (B : Begins v o H) :
    Meets (Builtin.«enumerate.__new__» ⟨[.type "enumerate", v], []⟩) (fun _ R s => H s.heap ∧
      R (.ok (.ret (.ref (s.heap.push o).objs.size))) { s with heap := (s.heap.push o).push { cls := .type "enumerate", data := .fields #[.none, .bool false, .ref s.heap.objs.size, rawInt 0, .none, .none] } }) :=
  .of_wp fun prog w A R s h => by
    obtain ⟨hp, g, d, tk, os⟩ := s
    obtain ⟨h1, h⟩ := h
    have sub := sub_enumerate
    have begin_ : ∀ {A' : Around} {E : Value → Shared → Prop} {Q : Value → Shared → Prop}, Q (.ref hp.objs.size) ⟨hp.push o, g, d, tk, os⟩ → wpAny (model prog w) A' (pyIter v) Q E ⟨hp, g, d, tk, os⟩ :=
      fun q => B.iter prog w _ _ ⟨hp, g, d, tk, os⟩ _ h1 q
    wp_walk using begin_
    refine wpAny_stack_any fun st => wpAny_pure ?_
    split
    · rename_i c _ _ _ _ _
      cases (c == Value.type "enumerate") <;> (wp_walk using begin_; exact ⟨_, rfl, h⟩)
    · wp_walk using begin_
      exact ⟨_, rfl, h⟩
section
variable {prog : Program} {w : World} {A : Around} {E : Value → Shared → Prop} {s : Shared}
theorem enum_call {v : Value} {o : Obj} {H : Heap → Prop} {Q : Value → Shared → Prop} (B : Begins v o H) (h1 : H s.heap)
    (h : ∀ h', IsEnum h' (s.heap.objs.size + 1) s.heap.objs.size 0 .none → h'.get? s.heap.objs.size = some o → (∀ b o, s.heap.get? b = some o → h'.get? b = some o) → Q (.ref (s.heap.objs.size + 1)) { s with heap := h' }) :
    wpAny (model prog w) A (call (.type "enumerate") [v]) Q E s := by
  refine callType_new F.called_enumerate (by decide) (F.typeCall_enumerate_1 _) (F.newCall_enumerate_1 _) (fun obj => F.args_object_init_2 obj _) F.entry_enumerate_new (enum_made B) ⟨h1, ?_⟩
  have sz : (s.heap.push o).objs.size = s.heap.objs.size + 1 := Heap.size_push ..
  have at_ := Heap.get?_push_size (s.heap.push o) (o := { cls := .type "enumerate", data := .fields #[.none, .bool false, .ref s.heap.objs.size, rawInt 0, .none, .none] }) rfl
  show _ ∧ _
  rw [sz] at at_ ⊢
  exact ⟨⟨_, at_, rfl⟩, h _ at_ (Heap.get?_push_of_some _ (Heap.get?_push_size _ B.free)) fun b o x => Heap.get?_push_of_some _ (Heap.get?_push_of_some _ x)⟩
end
def Itet (K : PySem.W.Frag) (a : Addr) : L2.It :=
  ⟨fun i H => ∃ (xs : List V) (x : V), SqT K H a xs ∧ xs[i]? = some x, fun i H v H' => ∃ T x, v = .ref T ∧ H T = none ∧ H' = upd H T (.tup [.int (i : Nat), x]) ∧ ∀ xs, SqT K H a xs → xs[i]? = some x, fun i H => ∃ xs : List V, SqT K H a xs ∧ xs.length ≤ i⟩
theorem enum_apart {h : Heap} {e it a : Addr} {i : Int} {old : Value} {items : Array Value} (x : IsEnum h e it i old) (y : h.IsTuple a items) : e ≠ a := fun z => by
  subst z
  obtain ⟨o, ho, hc, _⟩ := y
  have x : h.get? e = _ := x
  rw [x] at ho
  cases ho
  exact absurd (Value.type.inj hc) (by decide)
theorem turn_enumT {P : Program} {w : World} {K : PySem.W.Frag} {elts : List Expr} {kk : Nat} {tpos : Pos} (a e it : Addr) (ia : a ≠ it) :
    Turn P w K (.Tuple elts kk tpos) (Itet K a) [e, it] e (fun i h => (∃ old, IsEnum h e it ((i : Nat) : Int) old) ∧ h.IsTupleIter it a i ∧ e ≠ it) where
  mem := by simp
  obj := fun i h st b hb => by
    obtain ⟨⟨old, he⟩, ⟨o, ho, hc, hd⟩, _⟩ := st
    rcases List.mem_cons.mp hb with z | z
    · rw [z]; exact ⟨_, he, fun v q => nomatch q⟩
    · rw [List.mem_singleton.mp z]; exact ⟨o, ho, fun v q => by rw [hd] at q; cases q⟩
  keep := fun i h h' st k => let ⟨⟨old, he⟩, hi, ne⟩ := st; ⟨⟨old, k e (by simp) _ he⟩, hi.at fun o q => k it (by simp) o q, ne⟩
  item := by
    intro X hP hw hK hc i pins s σ H E I hf st hg
    subst hP hw hK
    obtain ⟨⟨old, he⟩, hit, ne⟩ := st
    obtain ⟨xs, x, hq, hx⟩ := hg
    obtain ⟨its, rv, p, hz⟩ := I.tuple hq
    have p : s.heap.IsTuple a its.toArray := p
    obtain ⟨u, hu, ru⟩ := rv.get hx
    have lt1 : e < s.heap.objs.size := Heap.lt_size he
    have lt2 : it < s.heap.objs.size := by obtain ⟨_, q, _⟩ := hit; exact Heap.lt_size q
    have hlt : i < its.toArray.size := by
      rw [List.size_toArray]
      exact (List.getElem?_eq_some_iff.mp hu).1
    refine wpAny_pyNext_enum_itemD (Draws.tuple (A := X.A.in1) (I.ok.hd hc) it a ia its.toArray) he ⟨hit, p⟩ hlt ne (by simp only [List.mem_cons, List.not_mem_nil, or_false, not_or]; exact ⟨ne, enum_apart he p⟩) fun x' h' tk hP' ho st' hT hsz hk => ?_
    have ex : x' = u := by
      have e1 : its.toArray[i]? = some u := by simpa using hu
      rw [e1] at hP'
      exact (Option.some.inj hP').symm
    subst ex
    refine ⟨_, rfl, wpAny_letOwnedTupleGo_enum (s := { s with heap := h', toks := tk + 1 }) ho fun h2 he2 sb => ?_⟩
    have hT2 : h2.get? s.heap.objs.size = some { cls := .type "tuple", data := .seq #[.int i tk, x'] } := (sb.2 _ (Nat.ne_of_gt lt1)).trans hT
    have fresh : ObjOk X.prog X.w (upd H s.heap.objs.size (.tup [.int (i : Nat), x])) h2 s.heap.objs.size (.tup [.int (i : Nat), x]) :=
      ⟨by show 2 ≤ sizeLine; decide, [.int i tk, x'], .cons ⟨_, rfl⟩ (.cons ru .nil), ⟨_, hT2, rfl, _, rfl⟩⟩
    have I1 : Inv X pins σ (upd H s.heap.objs.size (.tup [.int (i : Nat), x])) { s with heap := h2, toks := tk + 1 } :=
      I.turnedNew (ch := [e, it]) (fun b ob hb q => (sb.2 b (fun z => hb (by simp [z]))).trans (hk b ob (fun z => hb (by simp [z])) (fun z => hb (by simp [z])) q)) hf (Nat.le_refl _) fresh
    refine ⟨.ref s.heap.objs.size, _, I1, rfl, ⟨_, x, rfl, I.hok.fresh (Nat.le_refl _), rfl, fun ys hy => by rw [I.tuple_inj hy hq]; exact hx⟩, ⟨⟨x', ?_⟩, st'.1.at fun o q => (sb.2 it (Ne.symm ne)).trans q, ne⟩, fun b hb => ?_⟩
    · rw [show ((i + 1 : Nat) : Int) = (i : Int) + 1 by omega]
      exact he2
    · have hb' : b < s.heap.objs.size := by
        rcases List.mem_cons.mp hb with z | z
        · rw [z]; exact lt1
        · rw [List.mem_singleton.mp z]; exact lt2
      rw [upd_ne (Nat.ne_of_lt hb')]
      exact (hf b hb).1
  done := by
    intro X hP hw hK hc i pins s σ H E I hf st hg
    subst hP hw hK
    obtain ⟨⟨old, he⟩, hit, ne⟩ := st
    obtain ⟨xs, hq, hx⟩ := hg
    obtain ⟨its, rv, p, hz⟩ := I.tuple hq
    have p : s.heap.IsTuple a its.toArray := p
    obtain ⟨f0, f1, f2, f3, f4, f5⟩ := hf it (by simp)
    have hl := rv.length
    have hT : s.TypeIs (.ref e) "enumerate" := ⟨_, he, rfl⟩
    unfold pyNext
    refine wpAny_bind (wpAny_attempt (wpAny_callSpecial?_slot (name := Str.ofString "__next__") hT F.slot_enumerate_next (wpAny_call_entry F.slot_enumerate_next hT F.entry_enumerate_next ?_ (F.args_enumerate_next_1 _))))
    refine wpAny_bind (m := field (.ref e) 2) (wpAny_field he rfl (x := .ref it) rfl ?_)
    refine wpAny_bind (wpAny_nextOf_tuple_end (A := X.A.in1) (I.ok.hd hc) hit p (by simp; omega) fun h' y eb hy => ?_)
    obtain ⟨o, ho, hc'⟩ := hy
    refine wpAny_bind (wpAny_isInstance (T := "StopIteration") (b := true) ⟨o, ho, hc'⟩ isSubtype_stop ?_)
    exact wpAny_pure ⟨rfl, I.turned (t' := s.toks) (fun b o hb q => eb b o hb q) f0 f1 f3 f4 f5⟩
  self := fun A i s Q E st h => let ⟨⟨_, he⟩, _⟩ := st; wpAny_pyIter_enum he h
theorem jseq_enumT {K : PySem.W.Frag} {F H : Hp} {a : Addr} {xs : List V} {ds : List D} (hd : DqAll K F xs ds) (hq : SqT K F a xs) : JSeq K (Itet K a) false F H (enumD ds) := fun F2 H2 s1 s2 _ => by
  have q2 : SqT K H2 a xs := SqT.mono s2 (SqT.mono s1 hq)
  refine ⟨fun i e he => ?_, ⟨xs, q2, by rw [dpa_len hd, enum_len]; exact Nat.le_refl _⟩⟩
  obtain ⟨d, e1, rfl⟩ := enum_get he
  obtain ⟨v, h1, h2⟩ := dpa_get hd e1
  refine ⟨⟨xs, v, q2, h1⟩, fun x H3 ⟨p, x', e3, hp, e4, y⟩ => ?_⟩
  have e5 := y xs q2
  rw [h1] at e5
  cases e5
  subst e3 e4
  exact pair_new s2 hp (Dq.int _) (dp_mono s1 h2) rfl
theorem pi_enum2 {X : Cx} {e : Expr} {ta : TA} {p pos tpos : Pos} {elts : List Expr} {kk : Nat} (hg : Gl X "enumerate") (hm : X.mg "enumerate" = none) (ha : PA X [e] ta) (hs : starEach [e] X.env = [(false, eval e X.env)] := by rfl) :
    PI X (.Tuple elts kk tpos) (.Call (.Name "enumerate" p) [e] [] pos) (fun σ H R => ta σ H fun vs H1 => (∃ a xs, vs = [.ref a] ∧ SqL X.K H1 a xs ∧ R (Ite X.K a) H1) ∨ ∃ a xs, vs = [.ref a] ∧ SqT X.K H1 a xs ∧ R (Itet X.K a) H1) := by
  refine ⟨fun pins s σ H R I h => ?_⟩
  refine Call_ (ld_blt I hg hm boot_enumerate (PyProof.Rows.callWith_type1 (thn (ha.run pos pins s σ H _ I h) fun us s1 ⟨vs, H1, I1, r1, q1⟩ => ?_) hs rfl))
  have fp : ∀ b, b ∈ [s1.heap.objs.size + 1, s1.heap.objs.size] → s1.heap.objs.size ≤ b := fun b hb => by
    rcases List.mem_cons.mp hb with z | z
    · rw [z]; exact Nat.le_add_right _ _
    · rw [List.mem_singleton.mp z]; exact Nat.le_refl _
  rcases q1 with ⟨a, xs, ex, hq, q⟩ | ⟨a, xs, ex, hq, q⟩
  all_goals
    subst ex
    rw [Vals.ref1 r1]
  · obtain ⟨its, rv, p', hz⟩ := I1.list hq
    refine call_enumerate_list p'.isList fun h' he hit hsz hk => wpAny_pyIter_enum he ?_
    have I2 : Inv X pins σ H1 { s1 with heap := h' } := I1.kept (t' := s1.toks) hk
    exact ⟨_, [s1.heap.objs.size + 1, s1.heap.objs.size], _, _, H1, rfl, I2, turn_enum a _ s1.heap.objs.size, ⟨⟨.none, he⟩, hit, Nat.succ_ne_self _⟩, fun b hb => I1.fpOk (fp b hb) (I1.hok.fresh (fp b hb)), q⟩
  · obtain ⟨its, rv, p', hz⟩ := I1.tuple hq
    have p' : s1.heap.IsTuple a its.toArray := p'
    have alt : a < s1.heap.objs.size := by obtain ⟨o, ho, _⟩ := p'; exact Heap.lt_size ho
    refine enum_call (begins_tuple a its.toArray) p' fun h' he hit hk => wpAny_pyIter_enum he ?_
    have I2 : Inv X pins σ H1 { s1 with heap := h' } := I1.kept (t' := s1.toks) hk
    exact ⟨_, [s1.heap.objs.size + 1, s1.heap.objs.size], _, _, H1, rfl, I2, turn_enumT a _ s1.heap.objs.size (Nat.ne_of_lt alt), ⟨⟨.none, he⟩, ⟨_, hit, rfl, rfl⟩, Nat.succ_ne_self _⟩, fun b hb => I1.fpOk (fp b hb) (I1.hok.fresh (fp b hb)), q⟩
end DL
end
section
set_option maxRecDepth 100000
set_option maxHeartbeats 4000000
namespace DL
open PySem PySem.Spec PyProof.Rows L2
theorem attr_plain {o : Expr} {name : Str} {env : Env} (h : plainO o = true) : attributeBase o name env (eval o env) = eval o env := by
  cases o <;> first
    | rfl
    | (rename_i f as ks p; cases f <;> first
        | rfl
        | (cases as <;> first
            | rfl
            | (unfold plainO at h; cases h)))
section
variable {X : Cx} {o e : Expr} {to te : TE} {apos cpos : Pos}
theorem pe_splX (ho : PE X o to) (he : PE X e te) (po : plainO o = true) (pe : plainX e = true) (hl : (apos.endLine == cpos.line) = true) :
    PE X (.Call (.Attribute o "split" apos) [e] [] cpos) (tM1 (fun x xs H Q => ∃ a b, x = .str a ∧ xs = [.str b] ∧ (b.length == 0) = false ∧ a.length + 2 ≤ sizeLine ∧ rNewStrs (Txt.split a b) H Q) to te) :=
  pe_split ho he (starNo pe) (attr_plain po) hl
theorem pe_jnX (ho : PE X o to) (he : PE X e te) (po : plainO o = true) (pe : plainX e = true) (hl : (apos.endLine == cpos.line) = true) :
    PE X (.Call (.Attribute o "join" apos) [e] [] cpos) (tM1 (fun x xs H Q => ∃ a p, ∃ ys : List Str, x = .str a ∧ xs = [.ref p] ∧ (SqL X.K H p (ys.map V.str) ∨ SqT X.K H p (ys.map V.str)) ∧
      (ys.map (·.length)).sum + ys.length * a.length ≤ 16777216 ∧ Q (.str (Txt.join a ys)) H) to te) :=
  pe_join ho he (starNo pe) (attr_plain po) hl
theorem mt_sidx : MtR X "str.index" (fun x xs H Q => ∃ a b, x = .str a ∧ xs = [.str b] ∧ 0 ≤ Txt.find a b ∧ Q (.int (Txt.find a b)) H) := by
  intro pins s σ H x xs v us Q I rx rxs h
  obtain ⟨a, b, rfl, rfl, h0, q⟩ := h
  obtain ⟨t, rfl⟩ := _root_.id rx
  obtain ⟨u, rfl, ry⟩ := vals1 rxs
  obtain ⟨t2, rfl⟩ := _root_.id ry
  unfold Txt.find at h0 q
  cases ho : Builtin.Str.occurrences a b 0 a.length 1 with
  | nil => rw [ho] at h0; exact absurd h0 (by decide)
  | cons i rest =>
    rw [ho] at q
    exact call_gives F.slot_str_index (typeIs_str _ _ _) F.entry_str_index (F.args_str_index_2 _ _) (gives_str_index a b t t2 i rest ho) ⟨.int (i : Int), H, I.kept (t' := s.toks + 1) fun _ _ z => z, ⟨_, rfl⟩, q⟩
def rSfd (ix : Bool) : V → List V → Hp → VK → Prop := fun x xs H Q => ∃ a b, x = .str a ∧ xs = [.str b] ∧ (ix = true → 0 ≤ Txt.find a b) ∧ Q (.int (Txt.find a b)) H
theorem mt_six : MtR X "str.index" (rSfd true) := fun pins s σ H x xs v us Q I rx rxs ⟨a, b, e1, e2, h0, q⟩ => mt_sidx pins s σ H x xs v us Q I rx rxs ⟨a, b, e1, e2, h0 rfl, q⟩
theorem mt_sfd : MtR X "str.find" (rSfd false) := fun pins s σ H x xs v us Q I rx rxs ⟨a, b, e1, e2, _, q⟩ => mt_find pins s σ H x xs v us Q I rx rxs ⟨a, b, e1, e2, q⟩
theorem pe_sfdX (ix : Bool) (ho : PE X o to) (he : PE X e te) (po : plainO o = true) (pe : plainX e = true) (hl : (apos.endLine == cpos.line) = true) :
    PE X (.Call (.Attribute o (Str.ofString (if ix then "index" else "find")) apos) [e] [] cpos) (tM1 (rSfd ix) to te) := by
  cases ix with
  | true => exact pe_m1 F.slot_str_index F.type_str_index mt_six ho he (starNo pe) (attr_plain po) hl
  | false => exact pe_m1 F.slot_str_find F.type_str_find mt_sfd ho he (starNo pe) (attr_plain po) hl
theorem pe_lixX (hu : X.A.units + 65 < cLine) (ho : PE X o to) (he : PE X e te) (po : plainO o = true) (pe : plainX e = true) (hl : (apos.endLine == cpos.line) = true) :
    PE X (.Call (.Attribute o "index" apos) [e] [] cpos) (tBM X.K "list" (rIndexD X.K) to (tCons te tNil)) := by
  refine pe_bm PySem.F.plainAttrs_list PySem.F.slot_list_index PySem.F.type_list_index (mt_indexD hu) ho (pa_cons he pa_nil (starNo pe)) (attr_plain po) ?_ hl (starNo pe) rfl
  rw [starNo pe] <;> rfl
def tTix (K : PySem.W.Frag) (to te : TE) : TE := fun σ H Q => to σ H fun x H1 => (∃ p xs, x = V.ref p ∧ SqT K H1 p xs ∧ Nd K H1 p) ∧ te σ H1 fun y H2 => rTix K x [y] H2 Q
theorem nd_at {pins : List (Addr × Obj)} {σ : L2.St} {H : Hp} {s : Shared} {a : Addr} (I : Inv X pins σ H s) (h : Nd X.K H a) : ∃ ob, s.heap.get? a = some ob ∧ ob.dict = none := by
  obtain ⟨o, q, d⟩ := h
  rcases q with ⟨u, q⟩ | q
  · exact ⟨o, (I.hok _ _ q).1, d⟩
  · exact ⟨o, I.kIn a o q, d⟩
theorem pe_tixX (hu : X.A.units + 65 < cLine) (ho : PE X o to) (he : PE X e te) (po : plainO o = true) (pe : plainX e = true) (hl : (apos.endLine == cpos.line) = true) :
    PE X (.Call (.Attribute o "index" apos) [e] [] cpos) (tTix X.K to te) := by
  refine ⟨fun pins s σ H Q I h => ?_⟩
  refine PySem.Call_method1 (attr_plain po) (starNo pe) hl (thn (ho.run pins s σ H _ I h) fun v s1 w1 => ?_)
  obtain ⟨x, H1, I1, r1, ⟨p, xs, rfl, hq, nd⟩, q1⟩ := w1
  cases r1
  obtain ⟨its, rv, ht, hz⟩ := I1.tuple hq
  refine ⟨"tuple", "tuple.index", F.plainAttrs_tuple, F.slot_tuple_index, F.type_tuple_index, ht.typeIs, fun a ea => ?_, Calls.callWith_builtin rfl (Calls.evalArgs_plain (Calls.spliced_cons ?_))⟩
  · cases ea
    exact nd_at I1 nd
  · refine thn (he.run pins s1 σ H1 _ I1 q1) fun u s2 w2 => Calls.spliced_nil ?_
    obtain ⟨y, H2, I2, r2, q2⟩ := w2
    exact mt_tix hu pins s2 σ H2 (V.ref p) [y] (Value.ref p) [u] Q I2 rfl (.cons r2 .nil) q2
end
theorem dpa_of_strs {K : PySem.W.Frag} {H : Hp} : ∀ ys : List Str, DqAll K H (ys.map V.str) (ys.map PyData.str)
  | [] => .nil
  | y :: ys => .cons (.str y) (dpa_of_strs ys)
theorem dpa_strs {K : PySem.W.Frag} {H : Hp} : ∀ {ys : List Str} {xs : List V}, DqAll K H xs (ys.map PyData.str) → xs = ys.map V.str
  | [], xs, h => by cases h; rfl
  | y :: ys, xs, h => by
    cases h with
    | cons h1 h2 => cases h1; rw [dpa_strs h2]; rfl
end DL
end
section
set_option maxRecDepth 100000
set_option maxHeartbeats 4000000
namespace DL
open PySem PySem.Spec PyProof.Rows L2 RZ RT
theorem ty_mem {t : String} (h : ["int", "bool", "str", "tuple", "list"].contains t = true) : t ∈ ["isinstance", "range", "enumerate", "zip", "reversed", "int", "bool", "str", "tuple", "list", "sorted", "set"] := by
  have e : t = "int" ∨ t = "bool" ∨ t = "str" ∨ t = "tuple" ∨ t = "list" := by simpa using h
  rcases e with e | e | e | e | e <;> subst e <;> decide
section
variable {X : Cx} {K : PySem.W.Frag} {F H B F' : Hp}
def LenOk (K : PySem.W.Frag) (H : Hp) : Prop := ∀ (a : Addr) (xs : List V), (SqL K H a xs ∨ SqT K H a xs) → xs.length ≤ sizeLine
theorem PI.inv {tg x : Expr} {wi : TI} (h : PI X tg x wi) : PI X tg x (fun σ H R => wi σ H fun J H' => LenOk X.K H' → R J H') := by
  refine ⟨fun pins s σ H R I q => ?_⟩
  refine thn (h.run pins s σ H _ I q) fun v s1 q1 => thn q1 fun itv s2 q2 => ?_
  obtain ⟨it, fp, tn, J, H', e, I2, T2, st, fr, r⟩ := q2
  exact ⟨it, fp, tn, J, H', e, I2, T2, st, fr, r fun a xs q => by
    rcases q with q | q
    · obtain ⟨_, _, _, z⟩ := I2.list q; exact z
    · obtain ⟨_, _, _, z⟩ := I2.tuple q; exact z⟩
theorem seq_at {r : R} {y : V} {ds : List D} (v : RV K B F H r y) (s : Same F F') (f : Same F' H) (e : look r = .list ds) : ∃ (a : Addr) (xs : List V) (F2 : Hp), y = .ref a ∧ Same F' F2 ∧ Same F2 H ∧ (∀ b, B b ≠ none → F' b = none → F2 b = none) ∧ DqAll K F2 xs ds ∧
    SqL K H a xs ∧ ∀ F3 H3, Same F2 F3 → Same F3 H3 → (borR r = true → Same H H3) → SqL K H3 a xs := by
  cases r with
  | d d =>
    have e : d = .list ds := e
    subst e
    cases (show Dq K F y (.list ds) from v) with
    | lst p1 p2 =>
      rename_i a xs
      exact ⟨a, xs, F', rfl, Same.refl _, f, fun _ _ z => z, dpa_mono s p2, .inl (Rd.mono (s.trans f) p1), fun F3 H3 q1 q2 _ => .inl (Rd.mono (s.trans (q1.trans q2)) p1)⟩
  | l es fr =>
    have e : PyData.list es = .list ds := e
    cases e
    obtain ⟨a, xs, p1, p2, p3, p4, p5⟩ := v
    subst p1
    cases fr with
    | false => exact ⟨a, xs, F', rfl, Same.refl _, f, fun _ _ z => z, dpa_mono s p3, .inl (.inl p2), fun F3 H3 q1 q2 q3 => .inl (.inl (q3 rfl _ _ p2))⟩
    | true =>
      cases q : F' a with
      | none =>
        refine ⟨a, xs, upd F' a (.lst xs), rfl, same_upd q, upd_le f p2, fun b hb hf => ?_, dpa_mono (s.trans (same_upd q)) p3, .inl (.inl p2), fun F3 H3 q1 q2 _ => .inl (.inl (q2 _ _ (q1 _ _ upd_same)))⟩
        rw [upd_ne (fun z => by subst z; exact hb (p5 rfl))]
        exact hf
      | some o =>
        have e := f a o q
        rw [p2] at e
        cases e
        exact ⟨a, xs, F', rfl, Same.refl _, f, fun _ _ z => z, dpa_mono s p3, .inl (.inl p2), fun F3 H3 q1 q2 _ => .inl (.inl (q2 _ _ (q1 _ _ q)))⟩
end
section
variable {X : Cx} {K : PySem.W.Frag} {F H B F' : Hp}
theorem seq_atS {r : R} {y : V} {ds : List D} (v : RV K B F H r y) (s : Same F F') (f : Same F' H) (e : look r = .list ds ∨ look r = .tuple ds) : ∃ (a : Addr) (t : Bool) (xs : List V) (F2 : Hp), y = .ref a ∧ Same F' F2 ∧ Same F2 H ∧ (∀ b, B b ≠ none → F' b = none → F2 b = none) ∧ DqAll K F2 xs ds ∧
    SqS K H t a xs ∧ ∀ F3 H3, Same F2 F3 → Same F3 H3 → (borR r = true → Same H H3) → SqS K H3 t a xs := by
  rcases e with e | e
  · obtain ⟨a, xs, F2, h1, h2, h3, h4, h5, h6, h7⟩ := seq_at v s f e
    exact ⟨a, false, xs, F2, h1, h2, h3, h4, h5, h6, h7⟩
  · obtain ⟨a, xs, h1, h2, h3⟩ := rv_tup v e
    exact ⟨a, true, xs, F', h1, Same.refl _, f, fun _ _ z => z, dpa_mono s h3, SqT.mono (s.trans f) h2, fun F3 H3 q1 q2 _ => SqT.mono (s.trans (q1.trans q2)) h2⟩
theorem wZip_inv {r s : R} {Q : List D → Bool → Prop} (h : wZip r s Q) : ∃ ds es, (look r = .list ds ∨ look r = .tuple ds) ∧ (look s = .list es ∨ look s = .tuple es) ∧ Q (zipD ds es) (borR r || borR s) := by
  unfold wZip at h
  split at h
  · exact ⟨_, _, .inl (by assumption), .inl (by assumption), h⟩
  · rename_i ds es e1 e2
    refine ⟨_, _, .inr e1, .inr e2, ?_⟩
    rw [bor_tup e1, bor_tup e2]
    exact h
  · exact ⟨_, _, .inl (by assumption), .inr (by assumption), h⟩
  · exact ⟨_, _, .inr (by assumption), .inl (by assumption), h⟩
  · exact h.elim
end
mutual
theorem sE {T : Tb} {G : Nat → DSp} {n : Nat} {cm : Bool} : ∀ (e : E) (X : Cx) (W : WX) (g : GX T G n cm W X) (x : Expr), ckE T X.N cm X.env.scope e x = true → Snd X x (tE X.K T W (wE G e))
  | .v i, X, W, g, x, h => by
    unfold ckE at h
    split at h
    · obtain ⟨h1, h2, h3, h4⟩ := ckV_ok h
      refine Snd.of (PE.imp (pe_var h1 h2 h3 h4) fun σ H Q q => ?_) rfl
      obtain ⟨F0, H0, F, ρ, Ex, P, sx, q, post⟩ := q
      unfold wE wVar at q
      split at q
      · rename_i d e
        obtain ⟨v, g1, g2⟩ := sx.sr.val i d e
        exact ⟨v, g1, post _ _ F H q Step.refl sx.sr.fh g2⟩
      · rename_i ds b e
        obtain ⟨a, xs, g1, g2, g3, g4, g5⟩ := sx.sr.own i ds b e
        exact ⟨_, g1, post _ _ F H q Step.refl sx.sr.fh ⟨a, xs, rfl, g2, g3, g4, fun z => nomatch z⟩⟩
      · exact q.elim
    · cases h
  | .non, X, W, g, x, h => by
    unfold ckE at h
    split at h
    · refine Snd.of (PE.imp pe_non fun σ H Q q => ?_) rfl
      obtain ⟨F0, H0, F, ρ, Ex, P, sx, q, post⟩ := q
      exact post _ _ F H q Step.refl sx.sr.fh Dq.non
    · cases h
  | .bl b, X, W, g, x, h => by
    unfold ckE at h
    split at h
    · refine Snd.of (PE.imp pe_bl fun σ H Q q => ?_) rfl
      obtain ⟨F0, H0, F, ρ, Ex, P, sx, q, post⟩ := q
      have e := eq_of_beq h
      subst e
      exact post _ _ F H q Step.refl sx.sr.fh (Dq.bl _)
    · cases h
  | .int k, X, W, g, x, h => by
    unfold ckE at h
    split at h
    · refine Snd.of (PE.imp pe_int fun σ H Q q => ?_) rfl
      obtain ⟨F0, H0, F, ρ, Ex, P, sx, q, post⟩ := q
      have e := of_decide_eq_true h
      subst e
      exact post _ _ F H q Step.refl sx.sr.fh (Dq.int _)
    · cases h
  | .str k, X, W, g, x, h => by
    unfold ckE at h
    split at h
    · refine Snd.of (PE.imp pe_str fun σ H Q q => ?_) rfl
      obtain ⟨F0, H0, F, ρ, Ex, P, sx, q, post⟩ := q
      have e := of_decide_eq_true h
      subst e
      exact post _ _ F H q Step.refl sx.sr.fh (Dq.str _)
    · cases h
  | .gl k, X, W, g, x, h => by
    unfold ckE at h
    split at h
    · obtain ⟨h0, h1⟩ := ba h
      obtain ⟨e, h2, h3⟩ := ckG_ok h1
      subst e
      obtain ⟨u, v, g1, g2, g3⟩ := g.gl k (by simpa using h0)
      refine Snd.of (PE.imp (pe_glob (Gl_of h2) g1 g2 h3) fun σ H Q q => ?_) rfl
      obtain ⟨F0, H0, F, ρ, Ex, P, sx, q, post⟩ := q
      exact post _ _ F H q Step.refl sx.sr.fh (dp_mono (fun _ _ z => by cases z) g3)
    · cases h
  | .bin op a b, X, W, g, x, h => by
    unfold ckE at h
    split at h
    · obtain ⟨h, h2⟩ := ba h
      obtain ⟨h0, h1⟩ := ba h
      have e := of_decide_eq_true h0
      subst e
      exact Snd.of (PE.imp (pe_op (op_binD op) (sE a X W g _ h1).pe (sE b X W g _ h2).pe) fun σ H Q q => tE_bin q) rfl
    · cases h
  | .neg a, X, W, g, x, h => by
    unfold ckE at h
    split at h
    · exact Snd.of (PE.imp (pe_un un_negD (sE a X W g _ h).pe) fun σ H Q q => tE_un q) rfl
    · cases h
  | .not a, X, W, g, x, h => by
    unfold ckE at h
    split at h
    · have sa := sE a X W g _ h
      refine ⟨PE.imp (pe_not sa.pe) fun σ H Q q => ?_, PT.imp (pt_not sa.pt) fun σ H Q q => ?_, fun z => by cases z⟩
      · obtain ⟨F0, H0, F, ρ, Ex, P, sx, q, post⟩ := q
        refine (run1 (w := wE G a) sx q).mono fun y H1 ⟨F1, r, s1, f1, v1, h1⟩ => ?_
        obtain ⟨b, e, zz⟩ := wTru_inv h1
        clear h1
        have h1 := zz
        clear zz
        subst e
        exact ⟨b, rv_bool v1, post _ _ F1 H1 h1 s1 f1 (Dq.bl _)⟩
      · obtain ⟨F0, H0, F, ρ, Ex, P, sx, q, post⟩ := q
        refine (run1 (w := wE G a) sx q).mono fun y H1 ⟨F1, r, s1, f1, v1, h1⟩ => ?_
        obtain ⟨b, e, zz⟩ := wTru_inv h1
        clear h1
        have h1 := zz
        clear zz
        subst e
        obtain ⟨k, e, q2⟩ := post _ (.bl (!b)) F1 H1 h1 s1 f1 (Dq.bl _)
        cases e
        exact ⟨b, rv_bool v1, q2⟩
    · cases h
  | .cmp op a b, X, W, g, x, h => by
    unfold ckE at h
    split at h
    · obtain ⟨h, h3⟩ := ba h
      obtain ⟨h, h2⟩ := ba h
      obtain ⟨h0, h1⟩ := ba h
      have e := of_decide_eq_true h0
      subst e
      have sa := (sE a X W g _ h2).pe
      have sb := (sE b X W g _ h3).pe
      exact ⟨PE.imp (pe_cmpR (op_cmpD op g.hu) sa sb (noMarks h1)) fun σ H Q q => tE_bin q, PT.imp (pt_cmpR (op_cmpD op g.hu) sa sb (noMarks h1)) fun σ H Q q => tE_bin q, fun z => by cases z⟩
    · cases h
  | .chn op op' a b c, X, W, g, x, h => by
    unfold ckE at h
    split at h
    · obtain ⟨h, h6⟩ := ba h
      obtain ⟨h, h5⟩ := ba h
      obtain ⟨h, h4⟩ := ba h
      obtain ⟨h, h3⟩ := ba h
      obtain ⟨h, h2⟩ := ba h
      obtain ⟨h0, h1⟩ := ba h
      have e := of_decide_eq_true h0
      have e' := of_decide_eq_true h1
      subst e e'
      have sa := (sE a X W g _ h4).pe
      have sb := (sE b X W g _ h5).pe
      have sc := (sE c X W g _ h6).pe
      have lm : ∀ q r : Expr, plainX r = true → lastMarks [op, op'] [q, r] = false := fun q r hr => noMarks hr
      have im : ∀ σ H Q, tE X.K T W (wE G (.chn op op' a b c)) σ H Q → tChain (rB X.K (wCmp op)) (rB X.K (wCmp op')) (tE X.K T W (wE G a)) (tE X.K T W (wE G b)) (tE X.K T W (wE G c)) σ H Q := fun σ H Q q => by
        obtain ⟨F0, H0, F, ρ, Ex, P, sx, q, post⟩ := q
        refine (run1 (w := wE G a) sx q).mono fun y H1 ⟨F1, r, s1, f1, v1, k1⟩ => ?_
        refine (run1 (w := wE G b) (sx.step s1 f1) k1).mono fun z H2 ⟨F2, s, s2, f2, v2, k2⟩ => ?_
        refine ⟨F2, H, r, s, _, f2, v1.step s2, v2.base s1.h, k2, fun t v F3 H3 hp s3 f3 v3 => ?_⟩
        obtain ⟨k, e, zz⟩ := wTru_inv hp
        clear hp
        have hp := zz
        clear zz
        subst e
        refine ⟨k, rv_bool v3, ?_⟩
        cases k with
        | false =>
          have hp := wIf_f hp
          rw [if_neg Bool.false_ne_true]
          exact post _ _ F3 H3 hp ((s1.trans s2).trans s3) f3 (Dq.bl _)
        | true =>
          have hp := wIf_t hp
          rw [if_pos rfl]
          refine (run1 (w := wE G c) (sx.step ((s1.trans s2).trans s3) f3) hp).mono fun w H4 ⟨F4, u, s4, f4, v4, k4⟩ => ?_
          exact ⟨F4, H, s, u, P, f4, ((v2.step s3).step s4).base s1.h, v4.base (s1.h.trans (s2.h.trans s3.h)), k4, fun t v F' H' hp s5 f5 v5 => post t v F' H' hp ((((s1.trans s2).trans s3).trans s4).trans s5) f5 (v5.base (s1.h.trans (s2.h.trans (s3.h.trans s4.h))))⟩
      exact ⟨PE.imp (pe_chain (op_cmpD op g.hu) (op_cmpD op' g.hu) sa sb sc (lm _ _ h3)) im, PT.imp (pt_chain (op_cmpD op g.hu) (op_cmpD op' g.hu) sa sb sc (lm _ _ h3)) fun σ H Q q => im σ H _ q, fun z => by cases z⟩
    · cases h
  | .isN a, X, W, g, x, h => by
    unfold ckE at h
    split at h
    · have sa := (sE a X W g _ h).pe
      have im : ∀ σ H Q, tE X.K T W (wE G (.isN a)) σ H Q → tIsN (tE X.K T W (wE G a)) σ H Q := fun σ H Q q => by
        obtain ⟨F0, H0, F, ρ, Ex, P, sx, q, post⟩ := q
        refine (run1 (w := wE G a) sx q).mono fun y H1 ⟨F1, r, s1, f1, v1, k1⟩ => ?_
        rw [isNone_rv v1]
        exact post _ _ F1 H1 k1 s1 f1 (Dq.bl _)
      exact ⟨PE.imp (pe_cmp (pc_isN sa)) im, PT.imp (pt_cmp (pc_isN sa)) fun σ H Q q => im σ H _ q, fun z => by cases z⟩
    · cases h
  | .notN a, X, W, g, x, h => by
    unfold ckE at h
    split at h
    · have sa := (sE a X W g _ h).pe
      have im : ∀ σ H Q, tE X.K T W (wE G (.notN a)) σ H Q → tNotN (tE X.K T W (wE G a)) σ H Q := fun σ H Q q => by
        obtain ⟨F0, H0, F, ρ, Ex, P, sx, q, post⟩ := q
        refine (run1 (w := wE G a) sx q).mono fun y H1 ⟨F1, r, s1, f1, v1, k1⟩ => ?_
        rw [isNone_rv v1]
        exact post _ _ F1 H1 k1 s1 f1 (Dq.bl _)
      exact ⟨PE.imp (pe_cmp (pc_notN sa)) im, PT.imp (pt_cmp (pc_notN sa)) fun σ H Q q => im σ H _ q, fun z => by cases z⟩
    · cases h
  | .and a b, X, W, g, x, h => by
    unfold ckE at h
    split at h
    · rename_i p q r ps
      obtain ⟨h1, h2⟩ := ba h
      have sa := sE a X W g _ h1
      have key : PE X (.BoolOp .And (q :: r) ps) (tE X.K T W (wE G b)) ∧ PW X (.BoolOp .And (q :: r) ps) (tTest (tE X.K T W (wE G b))) := by
        cases r with
        | nil =>
          have sb := sE b X W g _ h2
          exact ⟨pe_one sb.pe, pw_and1 sb.pt⟩
        | cons r rs =>
          have sb := sE b X W g _ h2
          exact ⟨sb.pe, sb.pw rfl⟩
      have imT : ∀ σ H Q, tTest (tE X.K T W (wE G (.and a b))) σ H Q → tAnd (tTest (tE X.K T W (wE G a))) (tTest (tE X.K T W (wE G b))) σ H Q := fun σ H Q q => by
        obtain ⟨F0, H0, F, ρ, Ex, P, sx, q, post⟩ := q
        refine (run1 (w := wE G a) sx q).mono fun y H1 ⟨F1, r, s1, f1, v1, k1⟩ => ?_
        obtain ⟨k, e, zz⟩ := wTru_inv k1
        clear k1
        have k1 := zz
        clear zz
        subst e
        refine ⟨k, rv_bool v1, ?_⟩
        cases k with
        | false =>
          have k1 := wIf_f k1
          rw [if_neg Bool.false_ne_true]
          obtain ⟨k, e, q2⟩ := post _ (.bl false) F1 H1 k1 s1 f1 (Dq.bl _)
          cases e
          exact q2
        | true =>
          have k1 := wIf_t k1
          rw [if_pos rfl]
          exact (run1 (w := wE G b) (sx.step s1 f1) k1).mono fun z H2 ⟨F2, r2, s2, f2, v2, k2⟩ => post _ _ F2 H2 k2 (s1.trans s2) f2 (v2.base s1.h)
      have w : PW X (.BoolOp .And (p :: q :: r) ps) (tTest (tE X.K T W (wE G (.and a b)))) := PW.imp (pw_and sa.pt key.2) imT
      refine ⟨PE.imp (pe_and sa.pe key.1) fun σ H Q q => ?_, w.pt, fun _ => w⟩
      obtain ⟨F0, H0, F, ρ, Ex, P, sx, q, post⟩ := q
      refine (run1 (w := wE G a) sx q).mono fun y H1 ⟨F1, r, s1, f1, v1, k1⟩ => ?_
      obtain ⟨k, e, zz⟩ := wTru_inv k1
      clear k1
      have k1 := zz
      clear zz
      subst e
      refine ⟨k, rv_bool v1, ?_⟩
      cases k with
      | false =>
        have k1 := wIf_f k1
        rw [if_neg Bool.false_ne_true]
        exact post _ _ F1 H1 k1 s1 f1 (Dq.bl _)
      | true =>
        have k1 := wIf_t k1
        rw [if_pos rfl]
        exact (run1 (w := wE G b) (sx.step s1 f1) k1).mono fun z H2 ⟨F2, r2, s2, f2, v2, k2⟩ => post _ _ F2 H2 k2 (s1.trans s2) f2 (v2.base s1.h)
    · cases h
  | .or a b, X, W, g, x, h => by
    unfold ckE at h
    split at h
    · rename_i p q r ps
      obtain ⟨h1, h2⟩ := ba h
      have sa := sE a X W g _ h1
      have key : PE X (.BoolOp .Or (q :: r) ps) (tE X.K T W (wE G b)) ∧ PW X (.BoolOp .Or (q :: r) ps) (tTest (tE X.K T W (wE G b))) := by
        cases r with
        | nil =>
          have sb := sE b X W g _ h2
          exact ⟨pe_one sb.pe, pw_or1 sb.pt⟩
        | cons r rs =>
          have sb := sE b X W g _ h2
          exact ⟨sb.pe, sb.pw rfl⟩
      have imT : ∀ σ H Q, tTest (tE X.K T W (wE G (.or a b))) σ H Q → tOr (tTest (tE X.K T W (wE G a))) (tTest (tE X.K T W (wE G b))) σ H Q := fun σ H Q q => by
        obtain ⟨F0, H0, F, ρ, Ex, P, sx, q, post⟩ := q
        refine (run1 (w := wE G a) sx q).mono fun y H1 ⟨F1, r, s1, f1, v1, k1⟩ => ?_
        obtain ⟨k, e, zz⟩ := wTru_inv k1
        clear k1
        have k1 := zz
        clear zz
        subst e
        refine ⟨k, rv_bool v1, ?_⟩
        cases k with
        | true =>
          have k1 := wIf_t k1
          rw [if_pos rfl]
          obtain ⟨k, e, q2⟩ := post _ (.bl true) F1 H1 k1 s1 f1 (Dq.bl _)
          cases e
          exact q2
        | false =>
          have k1 := wIf_f k1
          rw [if_neg Bool.false_ne_true]
          exact (run1 (w := wE G b) (sx.step s1 f1) k1).mono fun z H2 ⟨F2, r2, s2, f2, v2, k2⟩ => post _ _ F2 H2 k2 (s1.trans s2) f2 (v2.base s1.h)
      have w : PW X (.BoolOp .Or (p :: q :: r) ps) (tTest (tE X.K T W (wE G (.or a b)))) := PW.imp (pw_or sa.pt key.2) imT
      refine ⟨PE.imp (pe_or sa.pe key.1) fun σ H Q q => ?_, w.pt, fun _ => w⟩
      obtain ⟨F0, H0, F, ρ, Ex, P, sx, q, post⟩ := q
      refine (run1 (w := wE G a) sx q).mono fun y H1 ⟨F1, r, s1, f1, v1, k1⟩ => ?_
      obtain ⟨k, e, zz⟩ := wTru_inv k1
      clear k1
      have k1 := zz
      clear zz
      subst e
      refine ⟨k, rv_bool v1, ?_⟩
      cases k with
      | true =>
        have k1 := wIf_t k1
        rw [if_pos rfl]
        exact post _ _ F1 H1 k1 s1 f1 (Dq.bl _)
      | false =>
        have k1 := wIf_f k1
        rw [if_neg Bool.false_ne_true]
        exact (run1 (w := wE G b) (sx.step s1 f1) k1).mono fun z H2 ⟨F2, r2, s2, f2, v2, k2⟩ => post _ _ F2 H2 k2 (s1.trans s2) f2 (v2.base s1.h)
    · cases h
  | .tup es, X, W, g, x, h => by
    unfold ckE at h
    split at h
    · refine Snd.of (PE.imp (pe_tupX (sEs es X W g _ h)) fun σ H Q q => ?_) rfl
      obtain ⟨F0, H0, F, ρ, Ex, P, sx, q, post⟩ := q
      refine (runA (w := wEs G es) sx q).mono fun vs H1 ⟨F1, rs, s1, f1, v1, k1⟩ => ?_
      obtain ⟨F2, ds, a1, a2, a3, a4, a5, a6⟩ := args_at v1 (Same.refl _) f1 k1
      refine ⟨by rw [dpa_len a3]; exact a5, fun p o ho hp => ?_⟩
      exact post _ _ _ _ a6 ((step_frz s1 a1 a4).trans (Step.new a2 hp)) (same_new a2) (dq_new a2 hp ho a3)
    · cases h
  | .lst es, X, W, g, x, h => by
    unfold ckE at h
    split at h
    · refine Snd.of (PE.imp (pe_lst (sEs es X W g _ h)) fun σ H Q q => ?_) rfl
      obtain ⟨F0, H0, F, ρ, Ex, P, sx, q, post⟩ := q
      refine (runA (w := wEs G es) sx q).mono fun vs H1 ⟨F1, rs, s1, f1, v1, k1⟩ => ?_
      obtain ⟨F2, ds, a1, a2, a3, a4, a5, a6⟩ := args_at v1 (Same.refl _) f1 k1
      refine ⟨by rw [dpa_len a3]; exact a5, fun p hp => ?_⟩
      exact post _ _ _ _ a6 ((step_frz s1 a1 a4).trans (Step.own a2 hp)) (same_own a2 hp) ((rv_new a2 hp a3).base s1.h)
    · cases h
  | .ix a b, X, W, g, x, h => by
    unfold ckE at h
    split at h
    · obtain ⟨h, h2⟩ := ba h
      obtain ⟨h0, h1⟩ := ba h
      exact Snd.of (PE.imp (pe_ix ix_D (sE a X W g _ h1).pe (sE b X W g _ h2).pe (plainIx h0)) fun σ H Q q => tE_bin q) rfl
    · cases h
  | .sl a lo hi, X, W, g, x, h => by
    unfold ckE at h
    split at h
    · obtain ⟨h, h2⟩ := ba h
      obtain ⟨h0, h1⟩ := ba h
      refine Snd.of (PE.imp (pe_slice sl_D (sE a X W g _ h0).pe (sO lo X W g _ h1) (sO hi X W g _ h2)) fun σ H Q q => ?_) rfl
      obtain ⟨F0, H0, F, ρ, Ex, P, sx, q, post⟩ := q
      refine (run1 (w := wE G a) sx q).mono fun y H1 ⟨F1, r, s1, f1, v1, k1⟩ => ?_
      refine (runO (w := wO G lo) (sx.step s1 f1) k1).mono fun l2 H2 ⟨F2, s2, f2, k2⟩ => ?_
      refine (runO (w := wO G hi) (sx.step (s1.trans s2) f2) k2).mono fun h3 H3 ⟨F3, s3, f3, k3⟩ => ?_
      exact ⟨F3, H, r, P, f3, (v1.step s2).step s3, k3, fun t v F' H' hp s4 f4 v4 => post t v F' H' hp (((s1.trans s2).trans s3).trans s4) f4 (v4.base (s1.h.trans (s2.h.trans s3.h)))⟩
    · cases h
  | .call f es, X, W, g, x, h => by
    unfold ckE at h
    split at h
    · rename_i y yp p ps pos
      obtain ⟨h, h3⟩ := ba h
      obtain ⟨h, h2⟩ := ba h
      obtain ⟨hc, h1⟩ := ba h
      obtain ⟨e, g1, g2⟩ := ckG_ok h2
      subst e
      obtain ⟨k, a, fd, pp, hk, hF, hm, hkp, hb⟩ := (g.fns f (by simpa using h1)).ex
      obtain ⟨px, pl⟩ := pos_call h3 X.env pos
      refine Snd.of (PE.imp (pe_callS (E := WE W) hF ((g.room hc).mono hk) (Gl_of g1) hm hkp hb (fun σ => passAtk g.tk σ) (sEs es X W g _ h3) g2 (starNo px) pl) fun σ H Q q => ?_) rfl
      obtain ⟨F0, H0, F, ρ, Ex, P, sx, q, post⟩ := q
      refine (runA (w := wEs G es) sx q).mono fun vs H1 ⟨F1, rs, s1, f1, v1, k1⟩ => ?_
      obtain ⟨F2, ds, a1, a2, a3, a4, a5⟩ := args_at v1 (Same.refl _) f1 k1
      have s2 := step_frz s1 a1 a4
      exact ⟨F2, ds, P, Ex, a2, a3, a5, fun r v F' H' hp s3 f3 v3 => post r v F' H' hp (s2.trans s3) f3 (v3.base s1.h), fun c F' H' hp s3 f3 => sx.ex c F' H' hp (s2.trans s3) f3⟩
    · cases h
  | .bi b es, X, W, g, x, h => by
    unfold ckE at h
    split at h
    · rename_i y yp p ps pos
      obtain ⟨h, h3⟩ := ba h
      obtain ⟨hc, h2⟩ := ba h
      obtain ⟨e, g1, g2⟩ := ckG_ok h2
      subst e
      obtain ⟨px, pl⟩ := pos_call h3 X.env pos
      have im : ∀ σ H Q, tE X.K T W (wE G (.bi b es)) σ H Q → tCB (rC X.K (wBi b)) (tA X.K T W (wEs G es)) σ H Q := fun σ H Q q => by
        obtain ⟨F0, H0, F, ρ, Ex, P, sx, q, post⟩ := q
        refine (runA (w := wEs G es) sx q).mono fun vs H1 ⟨F1, rs, s1, f1, v1, k1⟩ => ?_
        exact ⟨F1, H, rs, P, f1, v1, k1, fun t v F' H' hp s2 f2 v2 => post t v F' H' hp (s1.trans s2) f2 (v2.base s1.h)⟩
      rcases bi_all (X := X) b (g.calm hc) with ⟨_, c, bt⟩ | ⟨_, c, bt⟩
      · exact Snd.of (PE.imp (pe_callTy c (Gl_of g1) (g.bi b) bt (sEs es X W g _ h3) (bname_ne b) g2 (starNo px) pl) im) rfl
      · exact Snd.of (PE.imp (pe_callB c (Gl_of g1) (g.bi b) bt (sEs es X W g _ h3) (bname_ne b) g2 (starNo px) pl) im) rfl
    · cases h
  | .isi a t, X, W, g, x, h => by
    unfold ckE at h
    split at h
    · rename_i y yp p z zp pos
      obtain ⟨h, h4⟩ := ba h
      obtain ⟨h, h3⟩ := ba h
      obtain ⟨h, h2⟩ := ba h
      obtain ⟨h0, h1⟩ := ba h
      obtain ⟨e, g1, g2⟩ := ckG_ok h0
      obtain ⟨e', g1', g2'⟩ := ckG_ok h3
      subst e e'
      obtain ⟨tb, tn, _⟩ := ty_ok h4
      have sa := (sE a X W g _ h2).pe
      have pz : PE X (.Name (Str.ofString t) zp) (tC (.ty t)) := pe_bltn (Gl_of g1') (g.bo t (ty_mem h4)) tb rfl tn g2'
      have pa : PA X [p, .Name (Str.ofString t) zp] (tCons (tE X.K T W (wE G a)) (tCons (tC (.ty t)) tNil)) := pa_cons sa (pa_cons pz pa_nil) (starNo h1)
      refine Snd.of (PE.imp (pe_callB call_isi (Gl_of g1) (g.bo "isinstance" (by decide)) PyProof.Rows.boot_isinstance pa (by decide) g2 (starNo h1) rfl) fun σ H Q q => ?_) rfl
      obtain ⟨F0, H0, F, ρ, Ex, P, sx, q, post⟩ := q
      refine (run1 (w := wE G a) sx q).mono fun y H1 ⟨F1, r, s1, f1, v1, k1⟩ => ?_
      obtain ⟨k1, k2⟩ := k1
      obtain ⟨b, hb⟩ : ∃ b, kitB (tyD (look r)) t = some b := by
        cases e : kitB (tyD (look r)) t with
        | none => exact absurd e k1
        | some b => exact ⟨b, rfl⟩
      have eb : isiB (look r) t = b := by unfold isiB; rw [hb]; rfl
      rw [eb] at k2
      exact ⟨y, .ty t, .type (tyD (look r)), .type t, b, rfl, .ty t, tyX_of (v1.look f1), kit_ty hb, post _ _ F1 H1 k2 s1 f1 (Dq.bl _)⟩
    · cases h
  | .lc elt tg it cond own, X, W, g, x, h => by
    unfold ckE at h
    split at h
    · rename_i e t i ifs scope pos
      obtain ⟨h, h6⟩ := ba h
      obtain ⟨h, h5⟩ := ba h
      obtain ⟨h, h4⟩ := ba h
      obtain ⟨h, h3⟩ := ba h
      obtain ⟨hc, h2⟩ := ba h
      have ok := blkOk_by h3
      obtain ⟨pi, nf⟩ := sI it X W g t i h2 (g.calm hc)
      have hg := fun (s : Shared) (H : Hp) (C : Addr) (cl : List (Str × Addr)) (fp : List Addr) => pg_of (X := X.blk s H scope (compEnvC scope cl C X.env) fp) (sc := scope) blk_loc g.nd (g.calm hc) h4
      have ht := fun (s : Shared) (H : Hp) (C : Addr) (cl : List (Str × Addr)) (fp : List Addr) => sCond cond (X.blk s H scope (compEnvC scope cl C X.env) fp) (gx_blk g) ifs h6
      have he := fun (s : Shared) (H : Hp) (C : Addr) (cl : List (Str × Addr)) (fp : List Addr) => (sE elt (X.blk s H scope (compEnvC scope cl C X.env) fp) W0 (gx_blk g) e h5).pe
      exact Snd.of (PE.imp (pe_lc (g.calm hc) g.nd pi ok hg ht he nf) fun σ H Q q => sLc g (g.calm hc) pi ok hg ht he nf (ckT_own h4) (pos := pos) q) rfl
    · cases h
  | .sset a, X, W, g, x, h => by
    unfold ckE at h
    split at h
    · rename_i y yp z zp p q pos
      obtain ⟨h, h4⟩ := ba h
      obtain ⟨h, h3⟩ := ba h
      obtain ⟨h, h2⟩ := ba h
      obtain ⟨hc, h1⟩ := ba h
      obtain ⟨e, g1, g2⟩ := ckG_ok h1
      obtain ⟨e', g1', g2'⟩ := ckG_ok h2
      subst e e'
      refine Snd.of (PE.imp (pe_sset (g.calm hc) (by have := g.hu; omega) (Gl_of g1) (g.bo "sorted" (by decide)) (Gl_of g1') (g.bo "set" (by decide)) (sE a X W g _ h4).pe (starNo h3)) fun σ H Q q => ?_) rfl
      obtain ⟨F0, H0, F, ρ, Ex, P, sx, q, post⟩ := q
      refine (run1 (w := wE G a) sx q).mono fun y H1 ⟨F1, r, s1, f1, v1, k1⟩ => ?_
      obtain ⟨vs, hv, few, k1⟩ := k1
      have fin : ∀ xs : List V, DqAll X.K F1 xs (vs.map vD) → ∃ ks : List (Addr × List Int), xs = refsV ks ∧ (∀ p ∈ ks, SqT X.K H1 p.1 (p.2.map V.int) ∧ p.2.length = 2) ∧ ks.length ≤ 2047 ∧
          ∀ (L : List (Addr × List Int)) (p : Addr), (∀ q ∈ L, q ∈ ks) → (∀ q ∈ ks, q.2 ∈ L.map (·.2)) → (L.map (·.2)).Nodup → L.Pairwise (fun q r => SrtO.lexB (prI r.2) (prI q.2) = false) → H1 p = none → Q (.ref p) (upd H1 p (.lst (refsV L))) := fun xs hd => by
        obtain ⟨ks, e, a, b⟩ := vs_keys hd
        refine ⟨ks, e, fun p hp => ⟨SqT.mono f1 (a p hp).1, (a p hp).2⟩, by rw [← List.length_map (as := ks) fun p => prI p.2, b]; exact few, fun L p sub all nd pw hp => ?_⟩
        obtain ⟨o1, o2⟩ := sset_out (fun p hp => (a p hp).2) b sub all nd pw
        exact post _ (.ref p) F1 _ (k1 _ o1 o2) (s1.trans (Step.own f1 hp)) (same_own f1 hp) ((rv_new f1 hp (keys_vs fun p hp => a p (sub p hp))).base s1.h)
      rcases hv with e | e
      · obtain ⟨a, xs, e1, h1, h2⟩ := rv_list f1 v1 e
        obtain ⟨ks, e2, b1, b2, b3⟩ := fin xs h2
        exact ⟨a, ks, e1, .inl (by rw [← e2]; exact .inl h1), b1, b2, b3⟩
      · obtain ⟨a, xs, e1, h1, h2⟩ := rv_tup v1 e
        obtain ⟨ks, e2, b1, b2, b3⟩ := fin xs h2
        exact ⟨a, ks, e1, .inr (by rw [← e2]; exact SqT.mono f1 h1), b1, b2, b3⟩
    · cases h
  | .rvs a, X, W, g, x, h => by
    unfold ckE at h
    split at h
    · obtain ⟨h1, h2⟩ := ba h
      have e := of_decide_eq_true h1
      subst e
      refine Snd.of (PE.imp (pe_revT (sE a X W g _ h2).pe) fun σ H Q q => ?_) rfl
      obtain ⟨F0, H0, F, ρ, Ex, P, sx, q, post⟩ := q
      refine (run1 (w := wE G a) sx q).mono fun y H1 ⟨F1, r, s1, f1, v1, k1⟩ => ?_
      have k1 : wRvs r P := k1
      unfold wRvs at k1
      split at k1
      · rename_i ds e
        obtain ⟨a, xs, e1, h1, h2⟩ := rv_list f1 v1 e
        exact ⟨a, xs, e1, .inl ⟨.inl h1, fun p hp => post _ _ F1 _ k1 (s1.trans (Step.own f1 hp)) (same_own f1 hp) ((rv_new f1 hp (dpa_rev h2)).base s1.h)⟩⟩
      · rename_i ds e
        obtain ⟨a, xs, e1, h1, h2⟩ := rv_tup v1 e
        exact ⟨a, xs, e1, .inr ⟨SqT.mono f1 h1, fun p o ho hp => post _ _ _ _ k1 (s1.trans (Step.new f1 hp)) (same_new f1) (dq_new f1 hp ho (dpa_rev h2))⟩⟩
      · exact k1.elim
    · cases h
  | .isB b neg a, X, W, g, x, h => by
    unfold ckE at h
    split at h
    · rename_i p o c j cp pos
      obtain ⟨h, h3⟩ := ba h
      obtain ⟨h1, h2⟩ := ba h
      have e := of_decide_eq_true h1
      have e' := of_decide_eq_true h2
      subst e e'
      have sa := (sE a X W g _ h3).pe
      have im : ∀ σ H Q, tE X.K T W (wE G (.isB c neg a)) σ H Q → tE X.K T W (wE G a) σ H fun x H1 => ∃ d : Bool, x = .bl d ∧ Q (.bl (neg != decide (d = c))) H1 := fun σ H Q q => by
        obtain ⟨F0, H0, F, ρ, Ex, P, sx, q, post⟩ := q
        refine (run1 (w := wE G a) sx q).mono fun y H1 ⟨F1, r, s1, f1, v1, k1⟩ => ?_
        have k1 : wIsB c neg r P := k1
        cases r with
        | l ds fr => exact k1.elim
        | d d =>
          cases d with
          | bool d => exact ⟨d, rv_bool v1, post _ _ F1 H1 k1 s1 f1 (Dq.bl _)⟩
          | _ => exact k1.elim
      cases neg with
      | false =>
        have im2 : ∀ σ H Q, tE X.K T W (wE G (.isB c false a)) σ H Q → tOp rIsB (tE X.K T W (wE G a)) (tC (.bl c)) σ H Q := fun σ H Q q => (im σ H Q q).mono fun x H1 ⟨d, e, z⟩ => ⟨d, c, e, rfl, by simpa using z⟩
        exact ⟨PE.imp (pe_cmpR op_isBl sa pe_bl rfl) im2, PT.imp (pt_cmpR op_isBl sa pe_bl rfl) fun σ H Q q => im2 σ H _ q, fun z => by cases z⟩
      | true =>
        have im2 : ∀ σ H Q, tE X.K T W (wE G (.isB c true a)) σ H Q → tOp rNotB (tE X.K T W (wE G a)) (tC (.bl c)) σ H Q := fun σ H Q q => (im σ H Q q).mono fun x H1 ⟨d, e, z⟩ => ⟨d, c, e, rfl, by simpa using z⟩
        exact ⟨PE.imp (pe_cmpR op_notBl sa pe_bl rfl) im2, PT.imp (pt_cmpR op_notBl sa pe_bl rfl) fun σ H Q q => im2 σ H _ q, fun z => by cases z⟩
    · cases h
  | .srt a, X, W, g, x, h => by
    unfold ckE at h
    split at h
    · obtain ⟨h, h4⟩ := ba h
      obtain ⟨h, h3⟩ := ba h
      obtain ⟨hc, h1⟩ := ba h
      obtain ⟨e, g1, g2⟩ := ckG_ok h1
      subst e
      refine Snd.of (PE.imp (pe_callB (cr_srtD (by have := g.hu; omega)) (Gl_of g1) (g.bo "sorted" (by decide)) PyProof.Rows.boot_sorted (pa_cons (sE a X W g _ h4).pe pa_nil (starNo h3)) (by decide) g2 (starNo h3) rfl) fun σ H Q q => ?_) rfl
      obtain ⟨F0, H0, F, ρ, Ex, P, sx, q, post⟩ := q
      refine (run1 (w := wE G a) sx q).mono fun y H1 ⟨F1, r, s1, f1, v1, k1⟩ => ?_
      obtain ⟨ds, e, al, so, dp, k1⟩ := k1
      obtain ⟨a, xs, e1, h1, h2⟩ := rv_list f1 v1 e
      subst e1
      refine ⟨a, xs, ds, rfl, .inl h1, (DqAll.dp _ _ (dpa_mono f1 h2)).1, al, so, dp, fun zs pm em p hp => ?_⟩
      have hz : DqAll X.K F1 (zs.map (·.1)) (ds.mergeSort (PySem.W.dataLe false id)) := by
        rw [← em]
        exact dqa_of fun z hz => srt_zip h2 z (pm.mem_iff.mp hz)
      exact post _ _ F1 _ k1 (s1.trans (Step.own f1 hp)) (same_own f1 hp) ((rv_new f1 hp hz).base s1.h)
    · cases h
  | .best mx a, X, W, g, x, h => by
    unfold ckE at h
    split at h
    · obtain ⟨h, h4⟩ := ba h
      obtain ⟨h, h3⟩ := ba h
      obtain ⟨hc, h1⟩ := ba h
      obtain ⟨e, g1, g2⟩ := ckG_ok h1
      have hu := g.hu
      have im : ∀ (b : D → List D → D), (∀ (d : D) (ds : List D), (if mx then PySem.W.maxD d ds else PySem.W.minD d ds) = b d ds) → ∀ σ H Q, tE X.K T W (wE G (.best mx a)) σ H Q → tCB (rBestD X.K b) (tCons (tE X.K T W (wE G a)) tNil) σ H Q := fun b hb σ H Q q => by
        obtain ⟨F0, H0, F, ρ, Ex, P, sx, q, post⟩ := q
        refine (run1 (w := wE G a) sx q).mono fun y H1 ⟨F1, r, s1, f1, v1, k1⟩ => ?_
        obtain ⟨d, ds, e, al, dp, k1⟩ := k1
        rw [hb] at k1
        rcases e with e | e
        · obtain ⟨a, xs, e1, h1, h2⟩ := rv_list f1 v1 e
          subst e1
          have q2 := DqAll.dp _ _ (dpa_mono f1 h2)
          refine ⟨a, xs, d, ds, rfl, .inl (.inl h1), q2.1, q2.2, al, dp, fun i x hx hm => ?_⟩
          obtain ⟨d', e3, e4⟩ := dpa_get' h2 hx
          rw [hm] at e3
          cases e3
          exact post _ _ F1 H1 k1 s1 f1 e4
        · obtain ⟨a, xs, e1, h1, h2⟩ := rv_tup v1 e
          subst e1
          have q2 := DqAll.dp _ _ (dpa_mono f1 h2)
          refine ⟨a, xs, d, ds, rfl, .inr (SqT.mono f1 h1), q2.1, q2.2, al, dp, fun i x hx hm => ?_⟩
          obtain ⟨d', e3, e4⟩ := dpa_get' h2 hx
          rw [hm] at e3
          cases e3
          exact post _ _ F1 H1 k1 s1 f1 e4
      have pa1 : PA X [_] (tCons (tE X.K T W (wE G a)) tNil) := pa_cons (sE a X W g _ h4).pe pa_nil (starNo h3)
      cases mx with
      | false =>
        have e : _ = ("min" : Str) := e
        subst e
        exact Snd.of (PE.imp (pe_callB (cr_minD (g.calm hc) (by omega)) (Gl_of g1) (g.bi .min1) PyProof.Rows.boot_min pa1 (by decide) g2 (starNo h3) rfl) (im _ fun _ _ => rfl)) rfl
      | true =>
        have e : _ = ("max" : Str) := e
        subst e
        exact Snd.of (PE.imp (pe_callB (cr_maxD (g.calm hc) (by omega)) (Gl_of g1) (g.bi .max1) PyProof.Rows.boot_max pa1 (by decide) g2 (starNo h3) rfl) (im _ fun _ _ => rfl)) rfl
    · cases h
  | .tix a b, X, W, g, x, h => by
    unfold ckE at h
    split at h
    · rename_i o name apos p cp
      obtain ⟨h, h6⟩ := ba h
      obtain ⟨h, h5⟩ := ba h
      obtain ⟨h, h4⟩ := ba h
      obtain ⟨h, h3⟩ := ba h
      obtain ⟨h1, h2⟩ := ba h
      have e := of_decide_eq_true h1
      subst e
      refine Snd.of (PE.imp (pe_tixX (by have := g.hu; omega) (sE a X W g _ h5).pe (sE b X W g _ h6).pe h3 h4 h2) fun σ H Q q => ?_) rfl
      obtain ⟨F0, H0, F, ρ, Ex, P, sx, q, post⟩ := q
      refine (run1 (w := wE G a) sx q).mono fun y H1 ⟨F1, r, s1, f1, v1, k1⟩ => ?_
      obtain ⟨⟨d, ds, e0, e00⟩, k1⟩ := k1
      obtain ⟨l0, xs0, e01, e02, e03, e04⟩ := rv_tupN v1 e0
      refine ⟨⟨l0, xs0, e01, SqT.mono f1 e02, (e03 e00).mono f1⟩, ?_⟩
      refine (run1 (w := wE G b) (sx.step s1 f1) k1).mono fun z H2 ⟨F2, s, s2, f2, v2, k2⟩ => ?_
      obtain ⟨vs, v, e1, e2, hm, k2⟩ := k2
      obtain ⟨l, xs, e3, p1, p2⟩ := rv_tup (v1.step s2) e1
      subst e3
      have q2 := DqAll.dp _ _ (dpa_mono f2 p2)
      have q3 := Dq.dp _ _ (v2.look f2)
      rw [e2] at q3
      exact ⟨l, z, xs, vs, v, rfl, rfl, SqT.mono f2 p1, q2.1, q3.1, hm, post _ _ F2 H2 k2 (s1.trans s2) f2 (Dq.int _)⟩
    · cases h
  | .lset a, X, W, g, x, h => by
    unfold ckE at h
    split at h
    · rename_i y yp z zp p q pos
      obtain ⟨h, h4⟩ := ba h
      obtain ⟨h, h3⟩ := ba h
      obtain ⟨h, h2⟩ := ba h
      obtain ⟨hc, h1⟩ := ba h
      obtain ⟨e, g1, g2⟩ := ckG_ok h1
      obtain ⟨e', g1', g2'⟩ := ckG_ok h2
      subst e e'
      refine Snd.of (PE.imp (pe_lset (g.calm hc) (by have := g.hu; omega) (Gl_of g1) (g.bi .len) (Gl_of g1') (g.bo "set" (by decide)) (sE a X W g _ h4).pe (starNo h3)) fun σ H Q q => ?_) rfl
      obtain ⟨F0, H0, F, ρ, Ex, P, sx, q, post⟩ := q
      refine (run1 (w := wE G a) sx q).mono fun y H1 ⟨F1, r, s1, f1, v1, k1⟩ => ?_
      obtain ⟨vs, hv, few, k1⟩ := k1
      have fin : ∀ xs : List V, DqAll X.K F1 xs (vs.map vD) → ∃ ks : List (Addr × List Int), xs = refsV ks ∧ (∀ p ∈ ks, SqT X.K H1 p.1 (p.2.map V.int) ∧ p.2.length = 2) ∧ ks.length ≤ 2047 ∧
          ∀ L : List (Addr × List Int), (∀ q ∈ L, q ∈ ks) → (∀ q ∈ ks, q.2 ∈ L.map (·.2)) → (L.map (·.2)).Nodup → Q (.int (L.length : Nat)) H1 := fun xs hd => by
        obtain ⟨ks, e, a, b⟩ := vs_keys hd
        refine ⟨ks, e, fun p hp => ⟨SqT.mono f1 (a p hp).1, (a p hp).2⟩, by rw [← List.length_map (as := ks) fun p => prI p.2, b]; exact few, fun L sub all nd => ?_⟩
        obtain ⟨o1, o2⟩ := lset_out (fun p hp => (a p hp).2) b sub all nd
        have := post _ (.int (L.length : Nat)) F1 H1 (k1 _ o1 o2) s1 f1 (by rw [List.length_map]; exact Dq.int _)
        exact this
      rcases hv with e | e
      · obtain ⟨a, xs, e1, h1, h2⟩ := rv_list f1 v1 e
        obtain ⟨ks, e2, b1, b2, b3⟩ := fin xs h2
        exact ⟨a, ks, e1, .inl (by rw [← e2]; exact .inl h1), b1, b2, b3⟩
      · obtain ⟨a, xs, e1, h1, h2⟩ := rv_tup v1 e
        obtain ⟨ks, e2, b1, b2, b3⟩ := fin xs h2
        exact ⟨a, ks, e1, .inr (by rw [← e2]; exact SqT.mono f1 h1), b1, b2, b3⟩
    · cases h
  | .st2 k a, X, W, g, x, h => by
    unfold ckE at h
    split at h
    · rename_i p l c cj cp sp pos
      obtain ⟨h, h3⟩ := ba h
      obtain ⟨h1, h2⟩ := ba h
      have e := of_decide_eq_true h1
      subst e
      have lo : ∃ o : Option Int, (o = none ∧ k = 0 ∨ o = some ((k - 1 : Nat) : Int)) ∧ PO X l (fun σ H R => R o H) := by
        split at h2
        · exact ⟨none, .inl ⟨rfl, of_decide_eq_true h2⟩, PO.imp po_none fun σ H R q => q⟩
        · obtain ⟨h4, h5⟩ := ba h2
          have e := of_decide_eq_true h5
          subst e
          exact ⟨_, .inr rfl, PO.imp (po_some pe_int) fun σ H R q => ⟨_, rfl, q⟩⟩
        · cases h2
      obtain ⟨o, ho, po⟩ := lo
      have ho : o = none ∧ k - 1 = 0 ∨ o = some ((k - 1 : Nat) : Int) := ho.imp (fun z => ⟨z.1, by rw [z.2]⟩) id
      refine Snd.of (PE.imp (pe_st2 (k := k - 1) po ho (sE a X W g _ h3).pe) fun σ H Q q => ?_) rfl
      obtain ⟨F0, H0, F, ρ, Ex, P, sx, q, post⟩ := q
      refine (run1 (w := wE G a) sx q).mono fun y H1 ⟨F1, r, s1, f1, v1, k1⟩ => ?_
      have k1 : wSt2 k r P := k1
      unfold wSt2 at k1
      split at k1
      · rename_i ds e
        obtain ⟨a, xs, e1, h1, h2⟩ := rv_list f1 v1 e
        exact ⟨a, xs, e1, .inl h1, fun p hp => post _ _ F1 _ k1 (s1.trans (Step.own f1 hp)) (same_own f1 hp) ((rv_new f1 hp (dpa_evr h2)).base s1.h)⟩
      · exact k1.elim
    · cases h
  | .lzip a b, X, W, g, x, h => by
    unfold ckE at h
    split at h
    · obtain ⟨h, h6⟩ := ba h
      obtain ⟨h, h5⟩ := ba h
      obtain ⟨h, h4⟩ := ba h
      obtain ⟨h, h3⟩ := ba h
      obtain ⟨h, h2⟩ := ba h
      obtain ⟨hc, h1⟩ := ba h
      obtain ⟨e, g1, g2⟩ := ckG_ok h1
      obtain ⟨e', g1', g2'⟩ := ckG_ok h2
      subst e e'
      refine Snd.of (PE.imp (pe_listZip (g.calm hc) (Gl_of g1) (g.bo "list" (by decide)) (Gl_of g1') (g.bo "zip" (by decide)) (pa_cons (sE a X W g _ h5).pe (pa_cons (sE b X W g _ h6).pe pa_nil (starNo h4)) (starNo h3)) (starNo h3) (by rw [starNo h4]; rfl) rfl) fun σ H Q q => ?_) rfl
      obtain ⟨F0, H0, F, ρ, Ex, P, sx, q, post⟩ := q
      refine (run1 (w := wE G a) sx q).mono fun y H1 ⟨F1, r, s1, f1, v1, k1⟩ => ?_
      refine (run1 (w := wE G b) (sx.step s1 f1) k1).mono fun z H2 ⟨F2, s, s2, f2, v2, k2⟩ => ?_
      have v1' := v1.step s2
      have v2' := v2.base s1.h
      obtain ⟨ds, es, c1, c2, k2⟩ := wZip_inv k2
      obtain ⟨a, ta, xs, F3, e3, p1, p2, p3, p4, p5, p6⟩ := seq_atS v1' (Same.refl _) f2 c1
      obtain ⟨a', tb, ys, F4, e4, q1, q2, q3, q4, q5, q6⟩ := seq_atS v2' p1 p2 c2
      subst e3 e4
      refine ⟨a, a', ta, tb, xs, ys, rfl, p5, q5, fun p ts os hp hts pn nd hd lt lo => ?_⟩
      have s4 := step_frz (step_frz (s1.trans s2) p1 p3) q1 q3
      have fts : ∀ t ∈ ts, F4 t = none := fun t ht => Same.free q2 (hts t ht)
      have lp : layT H2 ts os xs ys p = none := by rw [layT_off _ _ _ _ _ pn]; exact hp
      have sF := layT_old (os := os) (xs := xs) (ys := ys) fts
      have sH := layT_old (os := os) (xs := xs) (ys := ys) hts
      refine post _ _ (layT F4 ts os xs ys) _ k2 (s4.trans ⟨sF, sH.trans (same_upd lp), fun b hb hf => ?_⟩) ((layT_le ts os xs ys _ _ q2 hts nd).trans (same_upd lp)) ⟨p, ts.map V.ref, rfl, upd_same, ?_, ?_, fun _ => Same.free s4.h hp⟩
      · rw [layT_off _ _ _ _ _ fun z => hb (hts b z)]
        exact hf
      · exact dqa_layT ts os xs ys ds es F4 fts nd hd lt lo (dpa_mono q1 p4) q4
      · rw [layT_off _ _ _ _ _ pn]
        exact Same.free q2 hp
    · cases h
  | .lrvd a, X, W, g, x, h => by
    unfold ckE at h
    split at h
    · obtain ⟨h, h4⟩ := ba h
      obtain ⟨h, h3⟩ := ba h
      obtain ⟨h, h2⟩ := ba h
      obtain ⟨hc, h1⟩ := ba h
      obtain ⟨e, g1, g2⟩ := ckG_ok h1
      obtain ⟨e', g1', g2'⟩ := ckG_ok h2
      subst e e'
      refine Snd.of (PE.imp (pe_listRev (g.calm hc) (Gl_of g1) (g.bo "list" (by decide)) (Gl_of g1') (g.bo "reversed" (by decide)) (sE a X W g _ h4).pe (starNo h3) rfl) fun σ H Q q => ?_) rfl
      obtain ⟨F0, H0, F, ρ, Ex, P, sx, q, post⟩ := q
      refine (run1 (w := wE G a) sx q).mono fun y H1 ⟨F1, r, s1, f1, v1, k1⟩ => ?_
      split at k1
      · rename_i ds e
        obtain ⟨a, xs, e1, h1, h2⟩ := rv_list f1 v1 e
        exact ⟨a, xs, e1, .inl h1, fun p hp => post _ _ F1 _ k1 (s1.trans (Step.own f1 hp)) (same_own f1 hp) ((rv_new f1 hp (dpa_rev h2)).base s1.h)⟩
      · exact k1.elim
    · cases h
  | .trvd a, X, W, g, x, h => by
    unfold ckE at h
    split at h
    · obtain ⟨h, h4⟩ := ba h
      obtain ⟨h, h3⟩ := ba h
      obtain ⟨h, h2⟩ := ba h
      obtain ⟨hc, h1⟩ := ba h
      obtain ⟨e, g1, g2⟩ := ckG_ok h1
      obtain ⟨e', g1', g2'⟩ := ckG_ok h2
      subst e e'
      refine Snd.of (PE.imp (pe_tupRevT (g.calm hc) (Gl_of g1) (g.bo "tuple" (by decide)) (Gl_of g1') (g.bo "reversed" (by decide)) (sE a X W g _ h4).pe (starNo h3) rfl) fun σ H Q q => ?_) rfl
      obtain ⟨F0, H0, F, ρ, Ex, P, sx, q, post⟩ := q
      refine (run1 (w := wE G a) sx q).mono fun y H1 ⟨F1, r, s1, f1, v1, k1⟩ => ?_
      split at k1
      · rename_i ds e
        obtain ⟨a, xs, e1, h1, h2⟩ := rv_tup v1 e
        exact ⟨a, xs, e1, SqT.mono f1 h1, fun p o ho hp => post _ _ _ _ k1 (s1.trans (Step.new f1 hp)) (same_new f1) (dq_new f1 hp ho (dpa_rev h2))⟩
      · exact k1.elim
    · cases h
  | .lix a b, X, W, g, x, h => by
    unfold ckE at h
    split at h
    · rename_i o name apos p cp
      obtain ⟨h, h6⟩ := ba h
      obtain ⟨h, h5⟩ := ba h
      obtain ⟨h, h4⟩ := ba h
      obtain ⟨h, h3⟩ := ba h
      obtain ⟨h1, h2⟩ := ba h
      have e := of_decide_eq_true h1
      subst e
      refine Snd.of (PE.imp (pe_lixX (by have := g.hu; omega) (sE a X W g _ h5).pe (sE b X W g _ h6).pe h3 h4 h2) fun σ H Q q => ?_) rfl
      obtain ⟨F0, H0, F, ρ, Ex, P, sx, q, post⟩ := q
      refine (run1 (w := wE G a) sx q).mono fun y H1 ⟨F1, r, s1, f1, v1, k1⟩ => ?_
      obtain ⟨⟨ds0, e0⟩, k1⟩ := k1
      obtain ⟨l0, xs0, e01, e02, e03⟩ := rv_list f1 v1 e0
      subst e01
      refine ⟨.inl ⟨rfl, _, .inl e02⟩, ?_⟩
      refine (run1 (w := wE G b) (sx.step s1 f1) k1).mono fun z H2 ⟨F2, s, s2, f2, v2, k2⟩ => ?_
      obtain ⟨ds, j, zz, e1, h7, h8, h9, h10, h11, k2⟩ := k2
      have q2 := Dq.dp _ _ ((v1.step s2).look f2)
      rw [e1] at q2
      have q3 := Dq.dp _ _ (v2.look f2)
      exact ⟨l0, z, look s, ds, j, zz, rfl, rfl, q2.1, q3.1, h7, h8, h9, h10, h11, post _ _ F2 H2 k2 (s1.trans s2) f2 (Dq.int _)⟩
    · cases h
  | .lrg a, X, W, g, x, h => by
    unfold ckE at h
    split at h
    · rename_i y yp z zp p q pos
      obtain ⟨h, h4⟩ := ba h
      obtain ⟨h, h3⟩ := ba h
      obtain ⟨h, h2⟩ := ba h
      obtain ⟨hc, h1⟩ := ba h
      obtain ⟨e, g1, g2⟩ := ckG_ok h1
      obtain ⟨e', g1', g2'⟩ := ckG_ok h2
      subst e e'
      refine Snd.of (PE.imp (pe_listRg (g.calm hc) (Gl_of g1) (g.bo "list" (by decide)) (prg_1 (Gl_of g1') (g.bo "range" (by decide)) (sE a X W g _ h4).pe (starNo h3)) rfl) fun σ H Q q => ?_) rfl
      obtain ⟨F0, H0, F, ρ, Ex, P, sx, q, post⟩ := q
      refine (run1 (w := wE G a) sx q).mono fun y H1 ⟨F1, r, s1, f1, v1, k1⟩ => ?_
      have k1 : wLrg r P := k1
      unfold wLrg at k1
      split at k1
      · rename_i j _
        obtain ⟨b1, b2, k1⟩ := k1
        have e := rv_int v1
        have hs : (sizeLine : Int) = 16777216 := by decide
        refine ⟨j, e, ⟨by omega, by omega, by omega, by omega, by omega⟩, fun p hp => ?_⟩
        have hd : DqAll X.K F1 (rgV 0 j) ((List.range j.toNat).map fun (k : Nat) => PyData.int (k : Int)) := by
          have := dpa_of_ints (K := X.K) (H := F1) ((List.range j.toNat).map fun (k : Nat) => (k : Int))
          rw [List.map_map, List.map_map] at this
          have e1 : rgV 0 j = List.map (V.int ∘ fun (k : Nat) => (k : Int)) (List.range j.toNat) := by
            unfold rgV
            rw [Int.sub_zero]
            apply List.map_congr_left
            intro k _
            show V.int (0 + (k : Int)) = V.int (k : Int)
            rw [Int.zero_add]
          rw [e1]
          exact this
        exact post _ _ F1 _ k1 (s1.trans (Step.own f1 hp)) (same_own f1 hp) ((rv_new f1 hp hd).base s1.h)
      · exact k1.elim
    · cases h
  | .sfd ix a b, X, W, g, x, h => by
    unfold ckE at h
    split at h
    · rename_i o name apos p cp
      obtain ⟨h, h6⟩ := ba h
      obtain ⟨h, h5⟩ := ba h
      obtain ⟨h, h4⟩ := ba h
      obtain ⟨h, h3⟩ := ba h
      obtain ⟨h1, h2⟩ := ba h
      have e := of_decide_eq_true h1
      subst e
      refine Snd.of (PE.imp (pe_sfdX ix (sE a X W g _ h5).pe (sE b X W g _ h6).pe h3 h4 h2) fun σ H Q q => ?_) rfl
      obtain ⟨F0, H0, F, ρ, Ex, P, sx, q, post⟩ := q
      refine (run1 (w := wE G a) sx q).mono fun y H1 ⟨F1, r, s1, f1, v1, k1⟩ => ?_
      obtain ⟨⟨z0, e0⟩, k1⟩ := k1
      refine ⟨⟨z0, rv_str v1 e0⟩, ?_⟩
      refine (run1 (w := wE G b) (sx.step s1 f1) k1).mono fun z H2 ⟨F2, s, s2, f2, v2, k2⟩ => ?_
      have k2 : wSfd ix r s P := k2
      unfold wSfd at k2
      split at k2
      · have ey := rv_str v1 rfl
        have ez := rv_str v2 rfl
        subst ey ez
        exact ⟨_, _, rfl, rfl, k2.1, post _ _ F2 _ k2.2 (s1.trans s2) f2 (Dq.int _)⟩
      · exact k2.elim
    · cases h
  | .spl a b, X, W, g, x, h => by
    unfold ckE at h
    split at h
    · rename_i o name apos p cp
      obtain ⟨h, h6⟩ := ba h
      obtain ⟨h, h5⟩ := ba h
      obtain ⟨h, h4⟩ := ba h
      obtain ⟨h, h3⟩ := ba h
      obtain ⟨h1, h2⟩ := ba h
      have e := of_decide_eq_true h1
      subst e
      refine Snd.of (PE.imp (pe_splX (sE a X W g _ h5).pe (sE b X W g _ h6).pe h3 h4 h2) fun σ H Q q => ?_) rfl
      obtain ⟨F0, H0, F, ρ, Ex, P, sx, q, post⟩ := q
      refine (run1 (w := wE G a) sx q).mono fun y H1 ⟨F1, r, s1, f1, v1, k1⟩ => ?_
      obtain ⟨⟨z0, e0⟩, k1⟩ := k1
      refine ⟨⟨z0, rv_str v1 e0⟩, ?_⟩
      refine (run1 (w := wE G b) (sx.step s1 f1) k1).mono fun z H2 ⟨F2, s, s2, f2, v2, k2⟩ => ?_
      have k2 : wSpl r s P := k2
      unfold wSpl at k2
      split at k2
      · have ey := rv_str v1 rfl
        have ez := rv_str v2 rfl
        subst ey ez
        exact ⟨_, _, rfl, rfl, k2.1, k2.2.1, fun p hp => post _ _ F2 _ k2.2.2 ((s1.trans s2).trans (Step.own f2 hp)) (same_own f2 hp) ((rv_new f2 hp (dpa_of_strs _)).base (s1.h.trans s2.h))⟩
      · exact k2.elim
    · cases h
  | .jn a b, X, W, g, x, h => by
    unfold ckE at h
    split at h
    · rename_i o name apos p cp
      obtain ⟨h, h6⟩ := ba h
      obtain ⟨h, h5⟩ := ba h
      obtain ⟨h, h4⟩ := ba h
      obtain ⟨h, h3⟩ := ba h
      obtain ⟨h1, h2⟩ := ba h
      have e := of_decide_eq_true h1
      subst e
      refine Snd.of (PE.imp (pe_jnX (sE a X W g _ h5).pe (sE b X W g _ h6).pe h3 h4 h2) fun σ H Q q => ?_) rfl
      obtain ⟨F0, H0, F, ρ, Ex, P, sx, q, post⟩ := q
      refine (run1 (w := wE G a) sx q).mono fun y H1 ⟨F1, r, s1, f1, v1, k1⟩ => ?_
      obtain ⟨⟨z0, e0⟩, k1⟩ := k1
      refine ⟨⟨z0, rv_str v1 e0⟩, ?_⟩
      refine (run1 (w := wE G b) (sx.step s1 f1) k1).mono fun z H2 ⟨F2, s, s2, f2, v2, k2⟩ => ?_
      have k2 : wJn r s P := k2
      unfold wJn at k2
      split at k2
      · have ey := rv_str v1 rfl
        subst ey
        obtain ⟨ys, e, hz, k2⟩ := k2
        rcases e with e | e
        · obtain ⟨l, xs, e1, p1, p2⟩ := rv_list f2 v2 e
          subst e1
          rw [dpa_strs p2] at p1
          exact ⟨_, l, ys, rfl, rfl, .inl (.inl p1), hz, post _ _ F2 H2 k2 (s1.trans s2) f2 (Dq.str _)⟩
        · obtain ⟨l, xs, e1, p1, p2⟩ := rv_tup v2 e
          subst e1
          rw [dpa_strs p2] at p1
          exact ⟨_, l, ys, rfl, rfl, .inr (SqT.mono f2 p1), hz, post _ _ F2 H2 k2 (s1.trans s2) f2 (Dq.str _)⟩
      · exact k2.elim
    · cases h
theorem sEs {T : Tb} {G : Nat → DSp} {n : Nat} {cm : Bool} : ∀ (es : Es) (X : Cx) (W : WX) (g : GX T G n cm W X) (xs : List Expr), ckEs T X.N cm X.env.scope es xs = true → PA X xs (tA X.K T W (wEs G es))
  | .nil, X, W, g, xs, h => by
    unfold ckEs at h
    split at h
    · refine PA.imp pa_nil fun σ H Q q => ?_
      obtain ⟨F0, H0, F, ρ, Ex, P, sx, q, post⟩ := q
      exact post [] [] F H q Step.refl sx.sr.fh rfl
    · cases h
  | .cons e es, X, W, g, xs, h => by
    unfold ckEs at h
    split at h
    · obtain ⟨h, h2⟩ := ba h
      obtain ⟨h0, h1⟩ := ba h
      refine PA.imp (pa_cons (sE e X W g _ h1).pe (sEs es X W g _ h2) (starNo h0)) fun σ H Q q => ?_
      obtain ⟨F0, H0, F, ρ, Ex, P, sx, q, post⟩ := q
      refine (run1 (w := wE G e) sx q).mono fun y H1 ⟨F1, r, s1, f1, v1, k1⟩ => ?_
      refine (runA (w := wEs G es) (sx.step s1 f1) k1).mono fun ys H2 ⟨F2, rs, s2, f2, v2, k2⟩ => ?_
      exact post (r :: rs) (y :: ys) F2 H2 k2 (s1.trans s2) f2 ⟨y, ys, rfl, v1.step s2, v2.base s1.h⟩
    · cases h
theorem sO {T : Tb} {G : Nat → DSp} {n : Nat} {cm : Bool} : ∀ (es : Es) (X : Cx) (W : WX) (g : GX T G n cm W X) (x : Option Expr), ckO T X.N cm X.env.scope es x = true → PO X x (tOO X.K T W (wO G es))
  | .nil, X, W, g, x, h => by
    unfold ckO at h
    split at h
    · refine PO.imp po_none fun σ H Q q => ?_
      obtain ⟨F0, H0, F, ρ, Ex, P, sx, q, post⟩ := q
      exact post none F H q Step.refl sx.sr.fh
    · cases h
  | .cons e es, X, W, g, x, h => by
    unfold ckO at h
    split at h
    · refine PO.imp (po_some (sE e X W g _ h).pe) fun σ H Q q => ?_
      obtain ⟨F0, H0, F, ρ, Ex, P, sx, q, post⟩ := q
      refine (run1 (w := wE G e) sx q).mono fun y H1 ⟨F1, r, s1, f1, v1, k1⟩ => ?_
      split at k1
      · exact ⟨_, rv_int v1, post _ F1 H1 k1 s1 f1⟩
      · exact k1.elim
    · cases h
theorem sCond {T : Tb} {G : Nat → DSp} {n : Nat} {cm : Bool} : ∀ (es : Es) (X : Cx) (g : GX T G n cm W0 X) (xs : List Expr), ckCond T X.N cm X.env.scope es xs = true → PTs X xs (tCd X.K T G es)
  | .nil, X, g, xs, h => by
    unfold ckCond at h
    split at h
    · exact pts_nil
    · cases h
  | .cons e es, X, g, xs, h => by
    unfold ckCond at h
    split at h
    · exact pts_one (sE e X W0 g _ h).pt
    · cases h
theorem sI {T : Tb} {G : Nat → DSp} {n : Nat} {cm : Bool} : ∀ (it : It) (X : Cx) (W : WX) (g : GX T G n cm W X) (t x : Expr), ckIt T X.N cm X.env.scope it t x = true → X.calm = true → PI X t x (tI X.K T W (wI G it)) ∧ ∀ v, foldedSetIterable x X.env v = pure v
  | .ex e, X, W, g, t, x, h, hc => by
    unfold ckIt at h
    obtain ⟨h0, h1⟩ := ba h
    refine ⟨PI.imp (pi_seqS (sE e X W g _ h1).pe) fun σ H R q => ?_, noFold h0⟩
    obtain ⟨F0, H0, F, ρ, Ex, P, sx, q, post⟩ := q
    refine (run1 (w := wE G e) sx q).mono fun y H1 ⟨F1, r, s1, f1, v1, k1⟩ => ?_
    split at k1
    rotate_left 2
    · rename_i z e1
      have e2 := rv_str v1 e1
      subst e2
      exact .inl ⟨z, rfl, post _ false _ F1 H1 k1.2 s1 f1 jseq_str (by rw [strD_len]; exact k1.1)⟩
    · exact k1.elim
    all_goals refine .inr ?_
    · rename_i ds e1
      cases r with
      | d d =>
        have e1 : d = .list ds := e1
        subst e1
        obtain ⟨a, xs, e2, g1, g2⟩ := rv_list f1 v1 rfl
        cases (show Dq X.K F1 y (.list ds) from v1) with
        | lst p1 p2 =>
          exact ⟨_, rfl, .inl ⟨_, .inl (Rd.mono f1 p1), fun hz => post ds false _ F1 H1 k1 s1 f1 (jseq_list (.inl p1) p2) (by rw [← dpa_len p2]; exact hz)⟩⟩
      | l es fr =>
        have e1 : PyData.list es = .list ds := e1
        cases e1
        obtain ⟨a, xs, p1, p2, p3, p4, p5⟩ := v1
        subst p1
        refine ⟨a, rfl, .inl ⟨xs, .inl (.inl p2), fun hz => ?_⟩⟩
        cases fr with
        | false => exact post _ true _ F1 H1 k1 s1 f1 (jseq_listB p2 p3) (by rw [← dpa_len p3]; exact hz)
        | true =>
          refine post _ false _ (upd F1 a (.lst xs)) H1 k1 (step_frz s1 (same_upd p4) fun b hb hf => ?_) (upd_le f1 p2) (jseq_list (.inl (.inl upd_same)) (dpa_mono (same_upd p4) p3)) (by rw [← dpa_len p3]; exact hz)
          rw [upd_ne (fun z => by subst z; exact hb (p5 rfl))]
          exact hf
    · rename_i ds e1
      obtain ⟨a, xs, e2, g1, g2⟩ := rv_tup v1 e1
      subst e2
      exact ⟨a, rfl, .inr ⟨xs, SqT.mono f1 g1, fun hz => post ds false _ F1 H1 k1 s1 f1 (jseq_tup g1 g2) (by rw [← dpa_len g2]; exact hz)⟩⟩
  | .rng1 a, X, W, g, t, x, h, hc => by
    unfold ckIt at h
    split at h
    · obtain ⟨h, h2⟩ := ba h
      obtain ⟨h0, h1⟩ := ba h
      obtain ⟨e, g1, g2⟩ := ckG_ok h0
      subst e
      refine ⟨PI.imp (pi_range1 (Gl_of g1) (g.bo "range" (by decide)) (pa_cons (sE a X W g _ h2).pe pa_nil (starNo h1)) (starNo h1)) fun σ H R q => ?_, noFold rfl⟩
      obtain ⟨F0, H0, F, ρ, Ex, P, sx, q, post⟩ := q
      refine (run1 (w := wE G a) sx q).mono fun y H1 ⟨F1, r, s1, f1, v1, k1⟩ => ?_
      split at k1
      · rename_i j
        obtain ⟨b1, b2, k1⟩ := k1
        have hs : (sizeLine : Int) < 2 ^ 62 := by decide
        have ey := rv_int v1
        subst ey
        exact ⟨j, rfl, b2, Int.lt_of_le_of_lt b1 hs, post _ false _ F1 H1 k1 s1 f1 (jseq_rng 0 j.toNat) (by rw [rng_len]; omega)⟩
      · exact k1.elim
    · cases h
  | .rng2 a b, X, W, g, t, x, h, hc => by
    unfold ckIt at h
    split at h
    · obtain ⟨h, h4⟩ := ba h
      obtain ⟨h, h3⟩ := ba h
      obtain ⟨h, h2⟩ := ba h
      obtain ⟨h0, h1⟩ := ba h
      obtain ⟨e, g1, g2⟩ := ckG_ok h0
      subst e
      refine ⟨PI.imp (pi_range2 (Gl_of g1) (g.bo "range" (by decide)) (pa_cons (sE a X W g _ h3).pe (pa_cons (sE b X W g _ h4).pe pa_nil (starNo h2)) (starNo h1)) (by rw [starNo h1, starNo h2]; rfl) (starNo h2)) fun σ H R q => ?_, noFold rfl⟩
      obtain ⟨F0, H0, F, ρ, Ex, P, sx, q, post⟩ := q
      refine (run1 (w := wE G a) sx q).mono fun y H1 ⟨F1, r, s1, f1, v1, k1⟩ => ?_
      refine (run1 (w := wE G b) (sx.step s1 f1) k1).mono fun z H2 ⟨F2, s, s2, f2, v2, k2⟩ => ?_
      split at k2
      · obtain ⟨b1, b2, k2⟩ := k2
        have ey := rv_int v1
        have ez := rv_int v2
        subst ey ez
        exact ⟨_, _, rfl, b2, post _ false _ F2 H2 k2 (s1.trans s2) f2 (jseq_rng _ _) (by rw [rng_len]; omega)⟩
      · exact k2.elim
    · cases h
  | .rng3 a b c, X, W, g, t, x, h, hc => by
    unfold ckIt at h
    split at h
    · obtain ⟨h, h5⟩ := ba h
      obtain ⟨h, h4⟩ := ba h
      obtain ⟨h, h3⟩ := ba h
      obtain ⟨h, h2⟩ := ba h
      obtain ⟨h0, h1⟩ := ba h
      obtain ⟨e, g1, g2⟩ := ckG_ok h0
      have hk := of_decide_eq_true h1
      subst e hk
      refine ⟨PI.imp (pi_range3 (Gl_of g1) (g.bo "range" (by decide)) (pa_cons (sE a X W g _ h4).pe (pa_cons (sE b X W g _ h5).pe (pa_cons pe_int pa_nil rfl) (starNo h3)) (starNo h2)) (by rw [starNo h2] <;> rfl) (by rw [starNo h3] <;> rfl)) fun σ H R q => ?_, noFold rfl⟩
      obtain ⟨F0, H0, F, ρ, Ex, P, sx, q, post⟩ := q
      refine (run1 (w := wE G a) sx q).mono fun y H1 ⟨F1, r, s1, f1, v1, k1⟩ => ?_
      refine (run1 (w := wE G b) (sx.step s1 f1) k1).mono fun z H2 ⟨F2, s, s2, f2, v2, k2⟩ => ?_
      split at k2
      · obtain ⟨c0, c1, b1, b2, k2⟩ := k2
        have ey := rv_int v1
        have ez := rv_int v2
        subst ey ez
        refine ⟨_, _, _, _, rfl, rgC_pos c0 c1 b2, post _ false _ F2 H2 k2 (s1.trans s2) f2 (jseq_rngC _ _ _) ?_⟩
        rw [rngC_len]
        exact cdiv_sz c0 b1
      · exact k2.elim
    · cases h
  | .enu e, X, W, g, t, x, h, hc => by
    unfold ckIt at h
    split at h
    · obtain ⟨h, h2⟩ := ba h
      obtain ⟨h0, h1⟩ := ba h
      obtain ⟨e', g1, g2⟩ := ckG_ok h0
      subst e'
      refine ⟨PI.imp (PI.inv (pi_enum2 (Gl_of g1) (g.bo "enumerate" (by decide)) (pa_cons (sE e X W g _ h2).pe pa_nil (starNo h1)) (starNo h1))) fun σ H R q => ?_, noFold rfl⟩
      obtain ⟨F0, H0, F, ρ, Ex, P, sx, q, post⟩ := q
      refine (run1 (w := wE G e) sx q).mono fun y H1 ⟨F1, r, s1, f1, v1, k1⟩ => ?_
      split at k1
      · rename_i ds e1
        obtain ⟨a, xs, F2, e2, p1, p2, p3, p4, p5, p6⟩ := seq_at v1 (Same.refl _) f1 e1
        subst e2
        exact .inl ⟨a, xs, rfl, p5, fun lo => post _ _ _ F2 H1 k1 (step_frz s1 p1 p3) p2 (jseq_enum p4 p6) (by rw [enum_len, ← dpa_len p4]; exact lo a xs (.inl p5))⟩
      · rename_i ds e1
        obtain ⟨a, xs, e2, p1, p2⟩ := rv_tup v1 e1
        subst e2
        exact .inr ⟨a, xs, rfl, SqT.mono f1 p1, fun lo => post _ _ _ F1 H1 k1 s1 f1 (jseq_enumT p2 p1) (by rw [enum_len, ← dpa_len p2]; exact lo a xs (.inr (SqT.mono f1 p1)))⟩
      · exact k1.elim
    · cases h
  | .zip a b, X, W, g, t, x, h, hc => by
    unfold ckIt at h
    split at h
    · obtain ⟨h, h4⟩ := ba h
      obtain ⟨h, h3⟩ := ba h
      obtain ⟨h, h2⟩ := ba h
      obtain ⟨h0, h1⟩ := ba h
      obtain ⟨e', g1, g2⟩ := ckG_ok h0
      subst e'
      refine ⟨PI.imp (pi_zipS (Gl_of g1) (g.bo "zip" (by decide)) (pa_cons (sE a X W g _ h3).pe (pa_cons (sE b X W g _ h4).pe pa_nil (starNo h2)) (starNo h1)) (starNo h1) (by rw [starNo h2]; rfl)) fun σ H R q => ?_, noFold rfl⟩
      obtain ⟨F0, H0, F, ρ, Ex, P, sx, q, post⟩ := q
      refine (run1 (w := wE G a) sx q).mono fun y H1 ⟨F1, r, s1, f1, v1, k1⟩ => ?_
      refine (run1 (w := wE G b) (sx.step s1 f1) k1).mono fun z H2 ⟨F2, s, s2, f2, v2, k2⟩ => ?_
      have v1' := v1.step s2
      have v2' := v2.base s1.h
      obtain ⟨ds, es, c1, c2, k2⟩ := wZip_inv k2
      obtain ⟨a, ta, xs, F3, e3, p1, p2, p3, p4, p5, p6⟩ := seq_atS v1' (Same.refl _) f2 c1
      obtain ⟨a', tb, ys, F4, e4, q1, q2, q3, q4, q5, q6⟩ := seq_atS v2' p1 p2 c2
      subst e3 e4
      refine ⟨a, a', ta, tb, xs, ys, rfl, p5, q5, fun lo => ?_⟩
      refine post _ _ _ F4 H2 k2 (step_frz (step_frz (s1.trans s2) p1 p3) q1 q3) q2 (jseq_zipS (dpa_mono q1 p4) q4 fun F5 H5 t1 t2 t3 => ?_) (by rw [zip_len, ← dpa_len p4]; exact Nat.le_trans (Nat.min_le_left _ _) lo)
      refine ⟨p6 F5 H5 (q1.trans t1) t2 fun z => t3 ?_, q6 F5 H5 t1 t2 fun z => t3 ?_⟩
      · rw [z]; rfl
      · rw [z]; exact Bool.or_true _
    · cases h
  | .rvd e, X, W, g, t, x, h, hc => by
    unfold ckIt at h
    split at h
    · obtain ⟨h, h2⟩ := ba h
      obtain ⟨h0, h1⟩ := ba h
      obtain ⟨e', g1, g2⟩ := ckG_ok h0
      subst e'
      refine ⟨PI.imp (PI.inv (pi_revA (Gl_of g1) (g.bo "reversed" (by decide)) (sE e X W g _ h2).pe (starNo h1))) fun σ H R q => ?_, noFold rfl⟩
      obtain ⟨F0, H0, F, ρ, Ex, P, sx, q, post⟩ := q
      refine (run1 (w := wE G e) sx q).mono fun y H1 ⟨F1, r, s1, f1, v1, k1⟩ => ?_
      split at k1
      · rename_i ds e1
        obtain ⟨a, xs, F2, e2, p1, p2, p3, p4, p5, p6⟩ := seq_at v1 (Same.refl _) f1 e1
        subst e2
        exact ⟨a, xs, rfl, .inl ⟨p5, fun lo => post _ _ _ F2 H1 k1 (step_frz s1 p1 p3) p2 (jseq_revG p4 p6) (by rw [List.length_reverse, ← dpa_len p4]; exact lo a xs (.inl p5))⟩⟩
      · rename_i ds e1
        obtain ⟨a, xs, e2, p1, p2⟩ := rv_tup v1 e1
        subst e2
        exact ⟨a, xs, rfl, .inr ⟨SqT.mono f1 p1, fun lo => post _ _ _ F1 H1 k1 s1 f1 (jseq_revT p1 p2) (by rw [List.length_reverse, ← dpa_len p2]; exact lo a xs (.inr (SqT.mono f1 p1)))⟩⟩
      · exact k1.elim
    · cases h
end
end DL
end
section
set_option maxRecDepth 100000
set_option maxHeartbeats 4000000
namespace DL
open PySem PySem.Spec PyProof.Rows L2
def isa (c d : Nat) : Bool := c == d || d == 0 || d == 7
inductive HT where
  | t (ys : List Nat)
  | n (k : Nat)
inductive HI where
  | tst (j : Nat) (ys : List Nat)
  | lst (j : Nat) (is : List HT)
  | add (j : Nat) (is : List HT)
def tval (c : Nat) (ys : List Nat) : Bool := ys.any fun y => y == 99 || isa c y
def hval (c : Nat) (ρ : En) : List HT → (List Bool → Prop) → Prop
  | [], k => k []
  | .t ys :: r, k => hval c ρ r fun bs => k (tval c ys :: bs)
  | .n i :: r, k => match ρ[i]? with
    | some (some (.d (.bool b))) => hval c ρ r fun bs => k ((!b) :: bs)
    | _ => False
def hsem (c : Nat) : List HI → (En → Prop) → En → Prop
  | [], k, ρ => k ρ
  | .tst j ys :: r, k, ρ => hsem c r k (ρ.set j (some (.d (.bool (tval c ys)))))
  | .lst j is :: r, k, ρ => hval c ρ is fun bs => hsem c r k (ρ.set j (some (.l (bs.map PyData.bool) true)))
  | .add j is :: r, k, ρ => match ρ[j]? with
    | some (some (.l es _)) => es.length ≤ 1000 ∧ hval c ρ is fun bs => hsem c r k (ρ.set j (some (.l (es ++ bs.map PyData.bool) true)))
    | _ => False
def xnm (T : Tb) (c : Nat) : Str := if c = 99 then "ValueError" else T.xc c
def ckCls (T : Tb) (sc : Scope) (c : Nat) (x : Str) : Bool := ckG sc (xnm T c) x && (c == 99 || (T.xks.contains c && T.xcs.contains c && !(decide (T.xc c = "ValueError"))))
def ckClss (T : Tb) (sc : Scope) : List Nat → List Expr → Bool
  | [], [] => true
  | c :: cs, e :: es => (match e with
    | .Name x _ => ckCls T sc c x
    | _ => false) && ckClss T sc cs es
  | _, _ => false
def ckTst (T : Tb) (N : List Str) (sc : Scope) (i : Nat) (ys : List Nat) (e : Expr) : Bool := match e with
  | .Call (.Name f _) [.Name n _, C] [] _ => ckG sc "isinstance" f && ckV N sc i n && (match C with
    | .Name x _ => (match ys with
      | [c] => ckCls T sc c x
      | _ => false)
    | .Tuple es _ _ => ckClss T sc ys es && decide (ys.length ≤ 1000)
    | _ => false)
  | _ => false
def ckItem (T : Tb) (N : List Str) (sc : Scope) (i : Nat) (it : HT) (e : Expr) : Bool := match it with
  | .t ys => ckTst T N sc i ys e
  | .n k => (match e with
    | .UnaryOp .Not (.Name x _) _ => ckV N sc k x
    | _ => false)
def ckItems (T : Tb) (N : List Str) (sc : Scope) (i : Nat) : List HT → List Expr → Bool
  | [], [] => true
  | it :: r, e :: es => ckItem T N sc i it e && ckItems T N sc i r es
  | _, _ => false
def ckHI (T : Tb) (N : List Str) (sc : Scope) (i : Nat) (h : HI) (s : Stmt) : Bool := match s with
  | .Assign [.Name y _] v _ => ckN N (match h with | .tst j _ => j | .lst j _ => j | .add j _ => j) y && isLoc (sc.names.lookup y) && (match h with
    | .tst j ys => !(j == i) && ckTst T N sc i ys v
    | .lst j is => !(j == i) && (match v with
      | .List es _ => ckItems T N sc i is es && decide (is.length ≤ 1000)
      | _ => false)
    | .add j is => !(j == i) && (match v with
      | .BinOp (.Name z _) .Add (.List es _) _ => ckV N sc j z && ckItems T N sc i is es && decide (is.length ≤ 1000)
      | _ => false))
  | _ => false
def ckHs (T : Tb) (N : List Str) (sc : Scope) (i : Nat) : List HI → List Stmt → Bool
  | [], [] => true
  | h :: hs, s :: ss => ckHI T N sc i h s && ckHs T N sc i hs ss
  | _, _ => false
def ckTC (T : Tb) (N : List Str) (sc : Scope) (i k : Nat) (y1 y2 : Nat) (zs : List Nat) (x n : Str) (su rs : List Stmt) : Bool := match su, rs with
  | [.Assign [.Name y _] (.Name n2 _) _], [.If (.BoolOp .Or [.Compare (.Name y3 _) [.Is] [.Constant .none _ _] _, .UnaryOp .Not t1 _, .UnaryOp .Not t2 _] _) [.Return (some (.Constant (.bool false) _ _)) _] [] _, .Return (some (.UnaryOp .Not t3 _)) _] =>
    !(i == k) && ckG sc (T.xc 0) x && T.xcs.contains 0 && ckN N i n && (sc.names.lookup n == some .local) && ckN N k y && isLoc (sc.names.lookup y) && ckV N sc i n2 && ckV N sc k y3 && ckTst T N sc k [y1] t1 && ckTst T N sc k [y2] t2 && ckTst T N sc k zs t3
  | _, _ => false
def tcB (c y1 y2 : Nat) (zs : List Nat) : Bool := tval c [y1] && tval c [y2] && !tval c zs
end DL
end
section
set_option maxRecDepth 100000
set_option maxHeartbeats 4000000
namespace DL
open PySem PySem.Spec PyProof.Rows L2
def valA (acc : List (Vec × D)) (k : Vec) : Option D := (acc.find? fun p => decide (p.1 = k)).map (·.2)
def putA (acc : List (Vec × D)) (k : Vec) (d : D) : List (Vec × D) :=
  if (acc.any fun p => decide (p.1 = k)) = true then acc.map (fun p => if p.1 = k then (p.1, d) else p) else acc ++ [(k, d)]
def isD (r : R) (k : D → Prop) : Prop := match r with
  | .d x => k x
  | _ => False
def isI (r : R) (k : Int → Prop) : Prop := match r with
  | .d (.int i) => k i
  | _ => False
def dBody (G : Nat → DSp) (js : Nat) (es ex ey : E) (Ex : Nat → En → Prop) (ρ : En) (acc : List (Vec × D)) (d : D) (k : En → List (Vec × D) → Prop) : Prop :=
  wE G es ρ (fun c => Ex c ρ) fun r => isD r fun x => wE G ex (ρ.set js (some (.d x))) (fun c => Ex c (ρ.set js (some (.d x)))) fun a => isI a fun i =>
    wE G ey (ρ.set js (some (.d x))) (fun c => Ex c (ρ.set js (some (.d x)))) fun b => isI b fun j => acc.length ≤ 2046 ∧ k (ρ.set js (some (.d x))) (putA acc (i, j) d)
def dLoop (G : Nat → DSp) (jp js jv : Nat) (es ex ey : E) (Ex : Nat → En → Prop) (fin : List (Vec × D) → Prop) : List D → En → List (Vec × D) → Prop
  | [], ρ, acc => jv < ρ.length ∧ fin acc
  | d :: ds, ρ, acc => jp < ρ.length ∧ dBody G js es ex ey Ex (ρ.set jp (some (.d d))) acc d fun ρ' acc' => dLoop G jp js jv es ex ey Ex fin ds ρ' acc'
def dFin (Q : R → Prop) (acc : List (Vec × D)) : Prop := ∀ (L : List Vec) (vals : List D), L.Perm (acc.map (·.1)) → L.Pairwise (fun q r => SrtO.lexB r q = false) → Paired (fun k d => valA acc k = some d) L vals → Q (.l vals true)
def wDs (G : Nat → DSp) (it : It) (jn jp js jv : Nat) (es ex ey : E) (Ex : Nat → En → Prop) (Rt : R → Prop) (ρ : En) : Prop := jn < ρ.length ∧ wI G it (ρ.set jn none) (fun c => Ex c (ρ.set jn none)) fun ds bor => bor = false ∧
  dLoop G jp js jv es ex ey Ex (fun acc => dFin Rt acc) ds (ρ.set jn none) []
def ckDv (N : List Str) (sc : Scope) (jn jv : Nat) (own : List (Str × Nat)) (e : Expr) : Bool := match e with
  | .ListComp (.Subscript (.Name a _) (.Name b _) _) [⟨.Name c pc, .Call (.Name s _) [.Name d _] [] _, [], asy⟩] scope _ => decide (asy = 0) && ckG sc "sorted" s && ckV N sc jn d && blkC N sc scope own && ckT N scope (own.map (·.2)) (.nm jv) (.Name c pc) && ckV N (relS scope sc) jn a && ckV N (relS scope sc) jv b &&
    !((own.map (·.2)).contains jn) && (own.map (·.2)).contains jv
  | _ => false
def ckDa (T : Tb) (N : List Str) (cm : Bool) (sc : Scope) (js : Nat) (es : E) (s1 : Stmt) : Bool := match s1 with
  | .Assign [.Name b pb] v p3 => ckN N js b && isLoc (sc.names.lookup b) && plainX v && ckE T N cm sc es v && (match v with
    | .ListComp _ _ _ _ => false
    | _ => true)
  | _ => false
def ckDc (T : Tb) (N : List Str) (cm : Bool) (sc : Scope) (jn jp : Nat) (ex ey : E) (s2 : Stmt) : Bool := match s2 with
  | .Assign [.Subscript (.Name c cp) (.Tuple [e1, e2] k tp) sp] (.Name d dp) p4 => ckV N sc jn c && ckV N sc jp d && plainX e1 && plainX e2 && ckE T N cm sc ex e1 && ckE T N cm sc ey e2
  | _ => false
def ckDb (T : Tb) (N : List Str) (cm : Bool) (sc : Scope) (jn jp js : Nat) (es ex ey : E) (s1 s2 : Stmt) : Bool := ckDa T N cm sc js es s1 && ckDc T N cm sc jn jp ex ey s2 && !(js == jn) && !(js == jp) && !(jp == jn)
def ckDs (T : Tb) (N : List Str) (cm : Bool) (sc : Scope) (it : It) (jn jp js jv : Nat) (own : List (Str × Nat)) (es ex ey : E) (st : List Stmt) : Bool := match st with
  | [.Assign [.Name a py] (.Dict [] [] dp) p1, .For t i [sa, sb] [] pos, .Return (some e) p5] => cm && ckN N jn a && isLoc (sc.names.lookup a) && ckT N sc (List.range N.length) (.nm jp) t && ckIt T N cm sc it t i && ckDb T N cm sc jn jp js es ex ey sa sb && ckDv N sc jn jv own e
  | _ => false
def isTi (r : R) (k : List Int → Prop) : Prop := ∃ is : List Int, r = .d (.tuple (is.map .int)) ∧ k is
def wAL (G : Nat → DSp) (j f : Nat) (e : E) (Ex : Nat → En → Prop) (nx : En → Prop) (ρ : En) : Prop := ∃ ds b, ρ[j]? = some (some (R.l ds b)) ∧ wE G e ρ (fun c => Ex c ρ) fun r => frzP r fun x => ds.length < sizeLine ∧
  G f [x, .list ds] (fun r => isTi r fun is => nx (ρ.set j (some (.l (ds ++ [.tuple (is.map .int)]) true)))) (fun c => Ex c ρ)
end DL
end
section
set_option maxRecDepth 100000
set_option maxHeartbeats 4000000
namespace DL
open PySem PySem.Spec PyProof.Rows L2
mutual
inductive S where
  | set (i : Nat) (e : E)
  | tup (is : List Nat) (e : E)
  | par2 (i j : Nat) (a b : E)
  | app (j : Nat) (e : E)
  | ext (j : Nat) (e : E)
  | appL (j f : Nat) (e : E)
  | pop (j : Nat)
  | appP0 (j k : Nat)
  | setP0 (i k : Nat)
  | rev (j : Nat)
  | sset (j : Nat) (k : E) (e : E)
  | ex (e : E)
  | ret (e : E)
  | retN | pass | brk
  | ifs (c : E) (a b : Ss)
  | whl (c : E) (b : Ss)
  | for_ (tg : Tg) (it : It) (b : Ss)
  | rais (c : Nat)
  | try1 (b : Ss) (c : Nat) (h : Ss) (xs : List Nat)
  | tryE (b : Ss) (c i : Nat) (h : List HI) (xs : List Nat)
  | dsrt (it : It) (jn jp js jv : Nat) (own : List (Str × Nat)) (es ex ey : E)
  | tryC (b : Ss) (i k y1 y2 : Nat) (zs xs : List Nat)
  | frz (i : Nat)
inductive Ss where
  | nil
  | cons (s : S) (ss : Ss)
end
structure DE where
  nx : En → Prop
  rt : R → Prop
  bk : En → Prop
  ex : Nat → En → Prop
def forLoop (st : D → En → (En → Prop) → Prop) (body : DE → En → Prop) (E : DE) : List D → En → Prop
  | [], ρ => E.nx ρ
  | d :: ds, ρ => st d ρ fun ρ2 => body { E with nx := forLoop st body E ds, bk := E.nx } ρ2
def whileLoop (c : En → (Bool → Prop) → Prop) (body : DE → En → Prop) (E : DE) (ρ : En) : Prop :=
  ∃ I : Nat → En → Prop, (∃ n, I n ρ) ∧ ∀ n ρ, I n ρ → c ρ fun b => wIf b (body { E with nx := fun ρ' => ∃ m, m < n ∧ I m ρ', bk := E.nx } ρ) (E.nx ρ)
def stR (i : Nat) (r : R) (ρ : En) (k : En → Prop) : Prop := match r with
  | .d x => k (ρ.set i (some (.d x)))
  | .l ds true => k (ρ.set i (some (.l ds true)))
  | .l _ false => False
def ownAt (ρ : En) (i : Nat) (k : List D → Prop) : Prop := match ρ[i]? with
  | some (some (.l ds _)) => k ds
  | _ => False
def stU (is : List Nat) (r : R) (ρ : En) (k : En → Prop) : Prop := match look r with
  | .tuple ds => (match setAll ρ is ds with
    | some ρ' => k ρ'
    | none => False)
  | .list ds => (match setAll ρ is ds with
    | some ρ' => k ρ'
    | none => False)
  | _ => False
def retR (r : R) (Q : R → Prop) : Prop := match r with
  | .d x => Q (.d x)
  | .l ds true => Q (.l ds true)
  | .l _ false => False
def frzS (i : Nat) (ρ : En) (k : En → Prop) : Prop := match ρ[i]? with
  | some (some (.l ds _)) => k (ρ.set i (some (.d (.list ds))))
  | some (some (.d _)) => k ρ
  | _ => False
mutual
def wS (G : Nat → DSp) : S → DE → En → Prop
  | .set i e, Z, ρ => wE G e ρ (fun c => Z.ex c ρ) fun r => stR i r ρ Z.nx
  | .tup is e, Z, ρ => wE G e ρ (fun c => Z.ex c ρ) fun r => stU is r ρ Z.nx
  | .par2 i j a b, Z, ρ => wE G a ρ (fun c => Z.ex c ρ) fun r => wE G b ρ (fun c => Z.ex c ρ) fun s => frzP r fun x => frzP s fun y => Z.nx ((ρ.set i (some (.d x))).set j (some (.d y)))
  | .app j e, Z, ρ => ownAt ρ j fun ds => wE G e ρ (fun c => Z.ex c ρ) fun r => frzP r fun x => ds.length < sizeLine ∧ Z.nx (ρ.set j (some (.l (ds ++ [x]) true)))
  | .ext j e, Z, ρ => ownAt ρ j fun ds => wE G e ρ (fun c => Z.ex c ρ) fun r => (match r with
    | .l es _ => ds.length + es.length ≤ sizeLine ∧ Z.nx (ρ.set j (some (.l (ds ++ es) true)))
    | _ => False)
  | .pop j, Z, ρ => ownAt ρ j fun ds => ds ≠ [] ∧ Z.nx (ρ.set j (some (.l ds.dropLast true)))
  | .appP0 j k, Z, ρ => ownAt ρ j fun ds => ownAt ρ k fun es => (match es with
    | x :: es => j ≠ k ∧ ds.length < sizeLine ∧ Z.nx ((ρ.set k (some (.l es true))).set j (some (.l (ds ++ [x]) true)))
    | [] => False)
  | .setP0 i k, Z, ρ => ownAt ρ k fun es => (match es with
    | x :: es => Z.nx ((ρ.set k (some (.l es true))).set i (some (.d x)))
    | [] => False)
  | .rev j, Z, ρ => ownAt ρ j fun ds => Z.nx (ρ.set j (some (.l ds.reverse true)))
  | .sset j k e, Z, ρ => ownAt ρ j fun ds => wE G e ρ (fun c => Z.ex c ρ) fun r => wE G k ρ (fun c => Z.ex c ρ) fun s => frzP r fun x => (match s with
    | .d (.int i) => (match ixN ds.length i with
      | some n => Z.nx (ρ.set j (some (.l (ds.set n x) true)))
      | none => False)
    | _ => False)
  | .ex e, Z, ρ => wE G e ρ (fun c => Z.ex c ρ) fun _ => Z.nx ρ
  | .ret e, Z, ρ => wE G e ρ (fun c => Z.ex c ρ) fun r => retR r Z.rt
  | .retN, Z, ρ => Z.rt (.d .none)
  | .pass, Z, ρ => Z.nx ρ
  | .brk, Z, ρ => Z.bk ρ
  | .ifs c a b, Z, ρ => wE G c ρ (fun c => Z.ex c ρ) fun r => wTru r fun k => wIf k (wSs G a Z ρ) (wSs G b Z ρ)
  | .whl c b, Z, ρ => whileLoop (fun ρ k => wE G c ρ (fun c => Z.ex c ρ) fun r => wTru r k) (wSs G b) Z ρ
  | .for_ tg it b, Z, ρ => wI G it ρ (fun c => Z.ex c ρ) fun ds bor => bor = false ∧ forLoop (stT tg) (wSs G b) Z ds ρ
  | .rais c, Z, ρ => Z.ex c ρ
  | .try1 b c h xs, Z, ρ => wSs G b { Z with ex := fun x ρ' => x ∈ xs ∧ wIf (isa x c) (wSs G h { Z with ex := fun _ _ => False } ρ') (Z.ex x ρ') } ρ
  | .tryE b c i h xs, Z, ρ => wSs G b { Z with ex := fun x ρ' => x ∈ xs ∧ i < ρ'.length ∧ wIf (isa x c) (hsem x h (fun ρ2 => Z.nx (ρ2.set i none)) (ρ'.set i none)) (Z.ex x ρ') } ρ
  | .appL j f e, Z, ρ => wAL G j f e Z.ex Z.nx ρ
  | .dsrt it jn jp js jv own es ex ey, Z, ρ => wDs G it jn jp js jv es ex ey Z.ex Z.rt ρ
  | .tryC b i k y1 y2 zs xs, Z, ρ => k < ρ.length ∧ wSs G b { Z with nx := fun ρ' => ρ'[k]? = some (some (.d .none)) ∧ Z.rt (.d (.bool false)), bk := fun _ => False, ex := fun x ρ' => x ∈ xs ∧ i < ρ'.length ∧ k < ρ'.length ∧ Z.rt (.d (.bool (tcB x y1 y2 zs))) } (ρ.set k (some (.d .none)))
  | .frz i, Z, ρ => frzS i ρ Z.nx
def wSs (G : Nat → DSp) : Ss → DE → En → Prop
  | .nil, Z, ρ => Z.nx ρ
  | .cons s ss, Z, ρ => wS G s { Z with nx := fun ρ' => wSs G ss Z ρ' } ρ
end
def isTup (e : Expr) : Bool := match e with
  | .Tuple _ _ _ => true
  | _ => false
def someCell (sc : Scope) (es : List Expr) : Bool := es.any fun e => match e with
  | .Name x _ => !(sc.names.lookup x == some .local)
  | _ => false
def ckMeth (T : Tb) (N : List Str) (sc : Scope) (j : Nat) (m : Str) (o : Expr) : Bool := match o with
  | .Attribute (.Name y _) name apos => decide (name = m) && ckV N sc j y
  | _ => false
def aLine (o : Expr) : Nat := match o with
  | .Attribute _ _ apos => apos.endLine
  | _ => 0
mutual
def ckS (T : Tb) (N : List Str) (cm : Bool) (sc : Scope) : S → Stmt → Bool
  | .set i e, s => (match s with
    | .Assign [.Name y py] v pos => ckN N i y && plainX v && ckE T N cm sc e v && (match v with
      | .ListComp _ _ scope lp => (match sc.names.lookup y with
        | some .local => (py.line == lp.line) && !(scope.names.any fun (n, k) => n == y && (k == .local || k == .cell))
        | some .cell => true
        | _ => false)
      | _ => isLoc (sc.names.lookup y))
    | _ => false)
  | .tup is e, s => (match s with
    | .Assign [.Tuple es k tp] v pos => cm && plainX v && (!isTup v || someCell sc es) && ckT N sc (List.range N.length) (.tp is) (.Tuple es k tp) && ckE T N cm sc e v
    | _ => false)
  | .par2 i j a b, s => (match s with
    | .Assign [.Tuple [.Name x px, .Name y py] kt pt] (.Tuple [p, q] k2 pt2) pos => cm && ckN N i x && ckN N j y && !(i == j) && (sc.names.lookup x == some .local) && (sc.names.lookup y == some .local) && !(x == y) && (py.line == px.line) &&
        !([p, q].all (foldedForSure 8)) && !([p, q].all (constantsAlone 8)) && plainX p && plainX q && ckE T N cm sc a p && ckE T N cm sc b q
    | _ => false)
  | .app j e, s => (match s with
    | .Expr (.Call o [p] [] cp) pos => cm && ckMeth T N sc j "append" o && (aLine o == cp.line) && plainX p && ckE T N cm sc e p
    | _ => false)
  | .ext j e, s => (match s with
    | .Expr (.Call o [p] [] cp) pos => cm && ckMeth T N sc j "extend" o && (aLine o == cp.line) && plainX p && ckE T N cm sc e p
    | _ => false)
  | .appL j f e, s => (match s with
    | .Expr (.Call o [.Call (.Name z _) [p, .Name y _] [] _] [] cp) pos => cm && ckMeth T N sc j "append" o && (aLine o == cp.line) && T.fns.contains f && ckG sc (T.fn f) z && ckV N sc j y && ckE T N cm sc e p && plainX p
    | _ => false)
  | .pop j, s => (match s with
    | .Expr (.Call o [] [] cp) pos => cm && ckMeth T N sc j "pop" o && (aLine o == cp.line)
    | _ => false)
  | .appP0 j k, s => (match s with
    | .Expr (.Call o [.Call o2 [.Constant (.int c) _ _] [] cp2] [] cp) pos => cm && ckMeth T N sc j "append" o && (aLine o == cp.line) && ckMeth T N sc k "pop" o2 && (aLine o2 == cp2.line) && decide (c = 0)
    | _ => false)
  | .setP0 i k, s => (match s with
    | .Assign [.Name y py] (.Call o2 [.Constant (.int c) _ _] [] cp2) pos => cm && ckN N i y && isLoc (sc.names.lookup y) && ckMeth T N sc k "pop" o2 && (aLine o2 == cp2.line) && decide (c = 0)
    | _ => false)
  | .rev j, s => (match s with
    | .Expr (.Call o [] [] cp) pos => cm && ckMeth T N sc j "reverse" o && (aLine o == cp.line)
    | _ => false)
  | .sset j k e, s => (match s with
    | .Assign [.Subscript (.Name y yp) i sp] v pos => ckV N sc j y && plainX v && plainX i && ckE T N cm sc e v && ckE T N cm sc k i
    | _ => false)
  | .ex e, s => (match s with
    | .Expr v pos => plainX v && ckE T N cm sc e v && (match v with
      | .ListComp _ _ _ _ => false
      | _ => true)
    | _ => false)
  | .ret e, s => (match s with
    | .Return (some v) pos => ckE T N cm sc e v
    | _ => false)
  | .retN, s => (match s with
    | .Return none pos => true
    | _ => false)
  | .pass, s => (match s with
    | .Pass _ => true
    | _ => false)
  | .brk, s => (match s with
    | .Break _ => true
    | _ => false)
  | .ifs c a b, s => (match s with
    | .If e p q pos => ckE T N cm sc c e && ckSs T N cm sc a p && ckSs T N cm sc b q
    | _ => false)
  | .whl c b, s => (match s with
    | .While e p [] pos => cm && ckE T N cm sc c e && ckSs T N cm sc b p
    | _ => false)
  | .for_ tg it b, s => (match s with
    | .For t i p [] pos => cm && ckT N sc (List.range N.length) tg t && ckIt T N cm sc it t i && ckSs T N cm sc b p
    | _ => false)
  | .rais c, s => (match s with
    | .Raise (some (.Call (.Name x p) [.Constant (.str m) j p2] [] cp)) none pos => cm && T.xcs.contains c && ckG sc (T.xc c) x
    | _ => false)
  | .try1 b c h xs, s => (match s with
    | .Try p [.ExceptHandler (some (.Name x np)) none (q :: qs) pos'] [] [] pos => cm && !T.nn && xs.all (T.xcs.contains ·) && T.xcs.contains c && ckG sc (T.xc c) x && ckSs T N cm sc b p && ckSs T N false sc h (q :: qs)
    | _ => false)
  | .tryE b c i h xs, s => (match s with
    | .Try p [.ExceptHandler (some (.Name x np)) (some n) (q :: qs) pos'] [] [] pos => cm && !T.nn && xs.all (fun z => T.xcs.contains z && T.xks.contains z) && T.xcs.contains c && ckG sc (T.xc c) x && ckSs T N cm sc b p && ckHs T N sc i h (q :: qs) && ckN N i n && (sc.names.lookup n == some .local)
    | _ => false)
  | .dsrt .., s => false
  | .tryC .., s => false
  | .frz i, s => false
def ckB (T : Tb) (N : List Str) (cm : Bool) (sc : Scope) : S → List Stmt → Bool
  | .tryC b _ _ _ _ _ _, p => ckSs T N cm sc b p
  | _, _ => false
def ckSs (T : Tb) (N : List Str) (cm : Bool) (sc : Scope) : Ss → List Stmt → Bool
  | .nil, x => (match x with
    | [] => true
    | _ => false)
  | .cons s ss, x => (match s with
    | .frz i => ckSs T N cm sc ss x
    | .tryC b i k y1 y2 zs xs => (match ss, x with
      | .nil, .Assign [.Name y0 _] (.Constant .none _ _) _ :: .Try p [.ExceptHandler (some (.Name e _)) (some n) su _] [] [] _ :: rs => !T.nn && xs.all (fun z => T.xcs.contains z && T.xks.contains z) && ckN N k y0 && isLoc (sc.names.lookup y0) && ckB T N cm sc s p && ckTC T N sc i k y1 y2 zs e n su rs
      | _, _ => false)
    | .dsrt it jn jp js jv own es ex ey => (match ss with
      | .nil => ckDs T N cm sc it jn jp js jv own es ex ey x
      | _ => false)
    | _ => (match x with
      | p :: ps => ckS T N cm sc s p && ckSs T N cm sc ss ps
      | [] => false))
end
end DL
end
section
set_option maxRecDepth 100000
set_option maxHeartbeats 4000000
namespace DL
open PySem PySem.Spec PyProof.Rows L2 RZ RT
structure XcT (T : Tb) (X : Cx) (c : Nat) : Prop where
  at_ : X.mg (T.xc c) = some (clsV X.K T c)
  exc : PySem.W.excIn X.K (He.ga X.K (T.xc c)) He.veBase "ValueError.__new__" = true
  keep : PySem.W.keepIn X.K (clsV X.K T c) = true
  sub : PySem.W.subIn X.K (clsV X.K T c) (.type "BaseException") = some true
  typ : PySem.W.typeIn X.K (clsV X.K T c) = some (.type "type")
structure XcI (K : PySem.W.Frag) (mg : Str → Option Value) (T : Tb) (c : Nat) : Prop where
  ex : ExcC K (He.ga K (T.xc c))
  ve : PySem.W.kitOne K (clsV K T c) (.type "ValueError") = some true
  xv : mg "ValueError" = none
structure GS (T : Tb) (G : Nat → DSp) (n : Nat) (cm : Bool) (W : WX) (X : Cx) : Prop where
  g : GX T G n cm W X
  pa : PassesOwn (model X.prog X.w) X.A X.env X.xe
  lc : ∀ x, isLoc (X.env.scope.names.lookup x) = true → Loc X.env.scope x ∧ (X.fn x = true ∨ X.env.scope.names.lookup x = some .local)
  st : X.stack = X.env :: X.outer
  fr : X.env.frame = some X.env.locals
  kd : X.env.scope.kind = .function
  xc : ∀ c ∈ T.xcs, XcT T X c
  xm : ∀ c ∈ T.xcs, ∀ d ∈ T.xcs, PySem.W.exmOne X.K (clsV X.K T c) (clsV X.K T d) = some (isa c d)
  xi : ∀ c ∈ T.xks, XcI X.K X.mg T c
structure Lk (K : PySem.W.Frag) (T : Tb) (W : WX) (F0 H0 F : Hp) (Z : DE) (D : Ends) : Prop where
  nx : ∀ ρ' σ' F' H', Same F F' → SR K F0 H0 F' ρ' σ' H' → Z.nx ρ' → D.nx σ' H'
  bk : ∀ ρ' σ' F' H', Same F F' → SR K F0 H0 F' ρ' σ' H' → Z.bk ρ' → D.bk σ' H'
  rt : ∀ r v F' H', Same F F' → Step F0 H0 F' H' → Same F' H' → RV K H0 F' H' r v → Z.rt r → D.rt v H'
  ex : ∀ c ρ' σ' F' H', Same F F' → SR K F0 H0 F' ρ' σ' H' → Z.ex c ρ' → W (clsV K T c) none σ' H'
def tS (K : PySem.W.Frag) (T : Tb) (W : WX) (w : DE → En → Prop) : TS := fun D σ H => ∃ (F0 H0 F : Hp) (ρ : En) (Z : DE), SR K F0 H0 F ρ σ H ∧ w Z ρ ∧ Lk K T W F0 H0 F Z D
section
variable {X : Cx} {K : PySem.W.Frag} {T : Tb} {G : Nat → DSp} {W : WX} {F0 H0 F H F' H' B : Hp} {ρ ρ' : En} {σ σ' : L2.St} {Z : DE} {D : Ends} {n : Nat} {cm : Bool}
theorem PS.imp {st : Stmt} {t t' : TS} (h : PS X st t) (i : ∀ D σ H, t' D σ H → t D σ H) : PS X st t' := ⟨fun pins s σ H D I q => h.run pins s σ H D I (i D σ H q)⟩
theorem PSs.imp {st : List Stmt} {t t' : TS} (h : PSs X st t) (i : ∀ D σ H, t' D σ H → t D σ H) : PSs X st t' := ⟨fun pins s σ H D I q => h.run pins s σ H D I (i D σ H q)⟩
theorem Lk.mono (k : Lk K T W F0 H0 F Z D) (s : Same F F') : Lk K T W F0 H0 F' Z D :=
  ⟨fun ρ σ F2 H2 a b c => k.nx ρ σ F2 H2 (s.trans a) b c, fun ρ σ F2 H2 a b c => k.bk ρ σ F2 H2 (s.trans a) b c, fun r v F2 H2 a b c d e => k.rt r v F2 H2 (s.trans a) b c d e, fun x ρ σ F2 H2 a b c => k.ex x ρ σ F2 H2 (s.trans a) b c⟩
theorem SX.at (sr : SR K F0 H0 F ρ σ H) (k : Lk K T W F0 H0 F Z D) : SX K T W F0 H0 F ρ σ H (fun c => Z.ex c ρ) :=
  ⟨sr, fun c F2 H2 h s f => k.ex c ρ σ F2 H2 s.f (sr.step s f) h⟩
theorem runS {w : En → (Nat → Prop) → (R → Prop) → Prop} {k : R → Prop} (sr : SR K F0 H0 F ρ σ H) (l : Lk K T W F0 H0 F Z D) (h : w ρ (fun c => Z.ex c ρ) k) :
    tE K T W w σ H (fun x H1 => ∃ F1 r, Step F H F1 H1 ∧ Same F1 H1 ∧ RV K H F1 H1 r x ∧ SR K F0 H0 F1 ρ σ H1 ∧ Lk K T W F0 H0 F1 Z D ∧ k r) :=
  (run1 (SX.at sr l) h).mono fun x H1 ⟨F1, r, s1, f1, v1, h1⟩ => ⟨F1, r, s1, f1, v1, sr.step s1 f1, l.mono s1.f, h1⟩
theorem SR.setR (sr : SR K F0 H0 F ρ σ H) {r : R} {x : V} (b0 : Same H0 B) (bn : ∀ (j : Nat) (es : List DL.D) (c : Bool) (a : Addr), ρ[j]? = some (some (R.l es c)) → σ[j]? = some (some (.ref a)) → B a ≠ none) (h : RV K B F H r x) (i : Nat) {k : En → Prop} (w : stR i r ρ k) :
    ∃ ρ', SR K F0 H0 F ρ' (σ.set i (some x)) H ∧ k ρ' := by
  cases r with
  | d d => exact ⟨_, sr.setD h i, w⟩
  | l ds b =>
    cases b with
    | false => exact w.elim
    | true =>
      obtain ⟨a, xs, e, h1, h2, h3, h4⟩ := h
      subst e
      refine ⟨_, sr.setL h1 h2 h3 (Same.free b0 (h4 rfl)) (fun j es c e1 e2 => ?_) i, w⟩
      exact bn j es c a e1 e2 (h4 rfl)
theorem own_nn (sr : SR K F0 H0 F ρ σ H) : ∀ (j : Nat) (es : List DL.D) (c : Bool) (a : Addr), ρ[j]? = some (some (R.l es c)) → σ[j]? = some (some (.ref a)) → H a ≠ none := fun j es c a e1 e2 => by
  obtain ⟨a', xs, g1, g2, _⟩ := sr.own j es c e1
  rw [e2] at g1
  cases g1
  exact ne_none_of g2
theorem ownAt_inv {j : Nat} {k : List DL.D → Prop} (h : ownAt ρ j k) : ∃ ds b, ρ[j]? = some (some (R.l ds b)) ∧ k ds := by
  unfold ownAt at h
  split at h
  · rename_i ds b e
    exact ⟨ds, b, e, h⟩
  · exact h.elim
theorem noSwapCell {e : Expr} {y : Str} {py : Pos} {l : Nat} {env : Env} (h : env.scope.names.lookup y = some .cell) : swapsWith e (some (.Name y py)) l env = pure false := by
  have ky : env.kindOf y = some .cell := h
  cases e <;> first
    | rfl
    | (unfold swapsWith
       simp only [ky]
       cases env.blockKind == ScopeKind.function <;> rfl)
theorem noSwapT {e : Expr} {es : List Expr} {k : Nat} {tp : Pos} {l : Nat} {env : Env} : swapsWithSole [.Tuple es k tp] e l env = pure false := by
  cases e <;> rfl
theorem noSwapSub {e o i : Expr} {tp : Pos} {l : Nat} {env : Env} : swapsWithSole [.Subscript o i tp] e l env = pure false := by
  cases e <;> rfl
theorem noStores {e tg : Expr} {env : Env} (h : isTup e = false) : swappedStores [tg] e env = pure none := by
  cases e <;> first | (cases tg <;> rfl) | (unfold isTup at h; cases h)
theorem noStoresC {e : Expr} {es : List Expr} {k : Nat} {tp : Pos} {env : Env} (h : someCell env.scope es = true) (hn : es.all (fun e => match e with | .Name _ _ => true | _ => false) = true) : swappedStores [.Tuple es k tp] e env = pure none := by
  have key : ∀ line, (es.filterMap fun
    | .Name id pos => if env.kindOf id == some .local && pos.line == line then some id else none
    | _ => none).length ≠ es.length := fun line => by
    have hle : ∀ (l : List Expr), (l.filterMap fun
      | .Name id pos => if env.kindOf id == some .local && pos.line == line then some id else none
      | _ => none).length ≤ l.length := fun l => List.length_filterMap_le _ _
    revert h
    clear hn
    induction es with
    | nil => intro h; cases h
    | cons e es ih =>
      intro h
      unfold someCell at h
      rw [List.any_cons] at h
      rcases Bool.or_eq_true_iff.mp h with z | z
      · cases e with
        | Name x p =>
          have z : (!(env.scope.names.lookup x == some .local)) = true := z
          have z2 : (env.kindOf x == some NameKind.local) = false := by
            show (env.scope.names.lookup x == some .local) = false
            simpa using z
          rw [List.filterMap_cons]
          simp only [z2, Bool.false_and, Bool.false_eq_true, if_false]
          have := hle es
          rw [List.length_cons]
          omega
        | _ => cases z
      · have := ih z
        have h2 := hle es
        rw [List.filterMap_cons]
        split
        · rw [List.length_cons]; omega
        · rw [List.length_cons, List.length_cons]; omega
  cases e with
  | Tuple vs k2 p2 =>
    unfold swappedStores
    simp only []
    have key2 := key ((es.head?.map (·.pos.line)).getD 0)
    split
    · rfl
    · split
      · rfl
      · rw [if_pos]
        rw [Bool.or_eq_true]
        left
        exact bne_iff_ne.mpr key2
  | _ => rfl
end
end DL
end
section
set_option maxRecDepth 100000
set_option maxHeartbeats 4000000
namespace DL
open PySem PySem.Spec PyProof.Rows L2
def rIsET (K : PySem.W.Frag) (D a : Addr) : List V → Hp → VK → Prop := fun xs H Q => ∃ (tp : Addr) (cs : List V) (us : List Value) (b : Bool), xs = [.ref a, .ref tp] ∧ H tp = some (.tup cs) ∧ Paired ClsV cs us ∧ PySem.W.kitAny K (.ref D) us = some b ∧ Q (.bl b) H
theorem call_isET {X : Cx} {a D : Addr} {oe : Obj} {pn : List (Addr × Obj)} (C : ExcC X.K D) (hz : Zc (.ref D) none oe) (hf : ∃ vs, oe.data = .fields vs) : CallR (X.suite a ((a, oe) :: pn)) (.builtin "isinstance") (rIsET X.K D a) := by
  intro pins s σ H xs us Q I r h
  obtain ⟨tp, cs, ws, b, rfl, hT, k, e, q⟩ := h
  cases r with
  | cons rx rr =>
    cases rr with
    | cons rt rr =>
      cases rr
      cases rx
      cases rt
      obtain ⟨hget, _⟩ := I.pin (a, oe) (List.mem_append.mpr (.inl List.mem_cons_self))
      obtain ⟨vs, hv⟩ := hf
      have J : PySem.W.InstAt s.heap a oe D none := by
        obtain ⟨oc, od, oda, osl⟩ := oe
        obtain ⟨h1, h2⟩ := hz
        dsimp only at h1 h2 hv
        subst h1 h2 hv
        exact ⟨hget, rfl, rfl, trivial⟩
      obtain ⟨_, its, rv, o, h1, h2, n, h3⟩ := (show ObjOk X.prog X.w H s.heap tp (.tup cs) from I.hok tp _ hT)
      have e3 := ClsV.all k rv
      subst e3
      obtain ⟨oc, od, dt, sl⟩ := o
      simp only at h2 h3
      subst h2 h3
      exact PySem.W.kia_tup (PySem.W.handS_kitx_exc C.hg C.hk C.hs C.hd C.ha C.hn C.ht C.hm) I.kIn J h1 e (fun z => nomatch z) fun tk => ⟨.bl b, H, I.kept (t' := tk) fun _ _ z => z, rfl, q⟩
def cvV (K : PySem.W.Frag) (y : Str) : V := if y = "ValueError" then .ty "ValueError" else .ref (He.ga K y)
def cvU (K : PySem.W.Frag) (y : Str) : Value := if y = "ValueError" then .type "ValueError" else .ref (He.ga K y)
def cvOk (K : PySem.W.Frag) (mg : Str → Option Value) (y : Str) : Prop := (y = "ValueError" ∧ mg y = none) ∨ (y ≠ "ValueError" ∧ mg y = some (.ref (He.ga K y)))
theorem cv_paired {K : PySem.W.Frag} : ∀ ys : List Str, Paired ClsV (ys.map (cvV K)) (ys.map (cvU K))
  | [] => .nil
  | y :: ys => .cons (by unfold cvV cvU; split <;> constructor) (cv_paired ys)
theorem cv_rel {K : PySem.W.Frag} {y : Str} {u : Value} (h : RelV (cvV K y) u) : u = cvU K y := by
  unfold cvV at h
  unfold cvU
  split at h <;> rename_i q
  · rw [if_pos q]; exact h
  · rw [if_neg q]; exact h
def tT (i : Nat) (a : Addr) (b : Bool) : TE := fun σ H Q => σ[i]? = some (some (.ref a)) ∧ ∀ H', Same H H' → Q (.bl b) H'
section
variable {X : Cx} {a D : Addr} {oe : Obj} {pn : List (Addr × Obj)} {i : Nat} {n : Str} {p np yp pos tp : Pos} {k : Nat}
theorem pe_cls {X : Cx} {y : Str} {yp : Pos} (hg : Gl X y) (hd : (y == ("__debug__" : Str)) = false) (h : cvOk X.K X.mg y) : PE X (.Name y yp) (tC (cvV X.K y)) := by
  rcases h with ⟨e, h⟩ | ⟨e, h⟩
  · subst e
    exact pe_bltn hg h (by rfl) rfl (by decide) hd
  · have e2 : cvV X.K y = .ref (He.ga X.K y) := by unfold cvV; rw [if_neg e]
    rw [e2]
    exact pe_glob hg h rfl hd
theorem pe_tst1 (C : ExcC X.K D) (hz : Zc (.ref D) none oe) (hf : ∃ vs, oe.data = .fields vs) (gi : Gl X "isinstance") (mi : X.mg "isinstance" = none) (hN : X.N[i]? = some n) (hv : Vis X.env.scope n) (h1 : (n == ("__debug__" : Str)) = false) (h2 : (n == ("__classdict__" : Str)) = false)
    {y : Str} (gy : Gl X y) (hd : (y == ("__debug__" : Str)) = false) (cy : cvOk X.K X.mg y) {b : Bool} (e : PySem.W.kitOne X.K (.ref D) (cvU X.K y) = some b) :
    PE (X.suite a ((a, oe) :: pn)) (.Call (.Name "isinstance" p) [.Name n np, .Name y yp] [] pos) (tT i a b) := by
  have pn1 : PE (X.suite a ((a, oe) :: pn)) (.Name n np) (tVar i) := pe_var hN hv h1 h2
  have py1 : PE (X.suite a ((a, oe) :: pn)) (.Name y yp) (tC (cvV X.K y)) := pe_cls (X := X.suite a ((a, oe) :: pn)) gy hd cy
  refine PE.imp (pe_callB (call_isE C hz hf) gi mi PyProof.Rows.boot_isinstance (pa_cons pn1 (pa_cons py1 pa_nil))) fun σ H Q q => ?_
  obtain ⟨q1, q2⟩ := q
  exact ⟨_, q1, _, _, b, rfl, fun u hu => cv_rel hu, e, q2 _ (Same.refl _)⟩
theorem pa_cls : ∀ (ys : List Str) (es : List Expr) (X : Cx), (∀ y ∈ ys, Gl X y ∧ (y == ("__debug__" : Str)) = false ∧ cvOk X.K X.mg y) → Paired (fun y e => ∃ yp, e = Expr.Name y yp) ys es → PA X es (fun σ H Q => Q (ys.map (cvV X.K)) H)
  | [], _, X, _, h => by
    cases h
    exact pa_nil
  | y :: ys, _, X, hy, h => by
    cases h with
    | cons h1 h2 =>
      obtain ⟨yp, rfl⟩ := h1
      obtain ⟨g1, g2, g3⟩ := hy y List.mem_cons_self
      exact pa_cons (pe_cls g1 g2 g3) (pa_cls ys _ X (fun z hz => hy z (List.mem_cons_of_mem _ hz)) h2)
theorem pe_tstN (C : ExcC X.K D) (hz : Zc (.ref D) none oe) (hf : ∃ vs, oe.data = .fields vs) (gi : Gl X "isinstance") (mi : X.mg "isinstance" = none) (hN : X.N[i]? = some n) (hv : Vis X.env.scope n) (h1 : (n == ("__debug__" : Str)) = false) (h2 : (n == ("__classdict__" : Str)) = false)
    {ys : List Str} {es : List Expr} (hy : ∀ y ∈ ys, Gl X y ∧ (y == ("__debug__" : Str)) = false ∧ cvOk X.K X.mg y) (hes : Paired (fun y e => ∃ yp, e = Expr.Name y yp) ys es) (hl : ys.length ≤ 1000) {b : Bool} (e : PySem.W.kitAny X.K (.ref D) (ys.map (cvU X.K)) = some b) :
    PE (X.suite a ((a, oe) :: pn)) (.Call (.Name "isinstance" p) [.Name n np, .Tuple es k tp] [] pos) (tT i a b) := by
  have pn1 : PE (X.suite a ((a, oe) :: pn)) (.Name n np) (tVar i) := pe_var hN hv h1 h2
  have py1 := pe_tup (pos := tp) (x1 := k) (pa_cls ys es (X.suite a ((a, oe) :: pn)) hy hes)
  refine PE.imp (pe_callB (call_isET C hz hf) gi mi PyProof.Rows.boot_isinstance (pa_cons pn1 (pa_cons py1 pa_nil))) fun σ H Q q => ?_
  obtain ⟨q1, q2⟩ := q
  refine ⟨_, q1, Nat.le_trans (by rw [List.length_map]; exact hl) (by decide), fun T hT => ?_⟩
  exact ⟨T, _, _, b, rfl, upd_same, cv_paired ys, e, q2 _ (same_upd hT)⟩
end
theorem SR.setNone {K : PySem.W.Frag} {F0 H0 F H : Hp} {ρ : En} {σ : L2.St} (sr : SR K F0 H0 F ρ σ H) (i : Nat) (x : Option V) : SR K F0 H0 F (ρ.set i none) (σ.set i x) H := by
  have key : ∀ (j : Nat) (r : R), (ρ.set i none)[j]? = some (some r) → j ≠ i ∧ ρ[j]? = some (some r) := fun j r h => by
    by_cases e : j = i
    · subst e
      by_cases hl : j < ρ.length
      · rw [List.getElem?_set_self hl] at h; cases h
      · rw [List.getElem?_eq_none (by rw [List.length_set]; omega)] at h; cases h
    · rw [List.getElem?_set_ne (Ne.symm e)] at h
      exact ⟨e, h⟩
  refine ⟨sr.fh, sr.ent, by rw [List.length_set, List.length_set]; exact sr.len, fun j d h => ?_, fun j ds b h => ?_, fun j k ds es b c a ne h1 h2 h3 => ?_⟩
  · obtain ⟨e, h⟩ := key j _ h
    rw [List.getElem?_set_ne (Ne.symm e)]
    exact sr.val j d h
  · obtain ⟨e, h⟩ := key j _ h
    rw [List.getElem?_set_ne (Ne.symm e)]
    exact sr.own j ds b h
  · obtain ⟨e1, h1⟩ := key j _ h1
    obtain ⟨e2, h2⟩ := key k _ h2
    rw [List.getElem?_set_ne (Ne.symm e1)] at h3
    rw [List.getElem?_set_ne (Ne.symm e2)]
    exact sr.sep j k ds es b c a ne h1 h2 h3
def excB (K : PySem.W.Frag) (D : Addr) : Bool :=
  He.eqO (PySem.W.findIn K (.ref D) "__getattribute__") (some (some (.builtin "BaseException.__getattribute__"))) && He.eqO (PySem.W.findIn K (.ref D) "__getattr__") (some none) &&
  decide (PySem.W.subIn K (.ref D) (.type "BaseException") = some true) && PySem.W.hasDictIn K D && He.eqO (PySem.W.findIn K (.ref D) "__class__") (some (some (.builtin "object.__class__"))) &&
  He.eqO (PySem.W.specialIn K (.builtin "object.__class__") "__get__") (some (some (.builtin "getset_descriptor.__get__"))) && decide (PySem.W.takesIn K (.builtin "object.__class__") = some true) && decide (PySem.W.mroIn K D (.type "object") = some true)
theorem excB_ok {K : PySem.W.Frag} {D : Addr} (h : excB K D = true) : ExcC K D := by
  unfold excB at h
  obtain ⟨h, h8⟩ := ba h
  obtain ⟨h, h7⟩ := ba h
  obtain ⟨h, h6⟩ := ba h
  obtain ⟨h, h5⟩ := ba h
  obtain ⟨h, h4⟩ := ba h
  obtain ⟨h, h3⟩ := ba h
  obtain ⟨h1, h2⟩ := ba h
  exact ⟨He.eqO_ok h1, He.eqO_ok h2, of_decide_eq_true h3, h4, He.eqO_ok h5, He.eqO_ok h6, of_decide_eq_true h7, of_decide_eq_true h8⟩
end DL
end
section
set_option maxRecDepth 100000
set_option maxHeartbeats 4000000
namespace DL
open PySem PySem.Spec PyProof.Rows L2
theorem kit_own {K : PySem.W.Frag} {T : Tb} (xm : ∀ c ∈ T.xcs, ∀ d ∈ T.xcs, PySem.W.exmOne K (clsV K T c) (clsV K T d) = some (isa c d)) {c d : Nat} (hc : c ∈ T.xcs) (hd : d ∈ T.xcs) : PySem.W.kitOne K (clsV K T c) (clsV K T d) = some (isa c d) := by
  have e := xm c hc d hd
  have e2 := xm c hc c hc
  have ic : isa c c = true := by simp [isa]
  unfold PySem.W.kitOne
  by_cases q : (clsV K T c == clsV K T d) = true
  · rw [if_pos q]
    rw [← eq_of_beq q, e2, ic] at e
    exact e
  · rw [if_neg q]
    unfold PySem.W.exmOne at e
    split at e
    · exact e
    · cases e
section
variable {T : Tb} {G : Nat → DSp} {n : Nat} {cm : Bool} {W : WX} {X : Cx} {a : Addr} {oe : Obj} {pn : List (Addr × Obj)} {c i : Nat}
theorem cls_at (g : GS T G n cm W X) (hc : c ∈ T.xcs) (I : XcI X.K X.mg T c) {d : Nat} {x : Str} (h : ckCls T X.env.scope d x = true) :
    Gl X x ∧ (x == ("__debug__" : Str)) = false ∧ cvOk X.K X.mg x ∧ PySem.W.kitOne X.K (.ref (He.ga X.K (T.xc c))) (cvU X.K x) = some (d == 99 || isa c d) := by
  unfold ckCls at h
  obtain ⟨h1, h2⟩ := ba h
  obtain ⟨e, g1, g2⟩ := ckG_ok h1
  subst e
  refine ⟨Gl_of g1, g2, ?_⟩
  by_cases q : d = 99
  · subst q
    exact ⟨.inl ⟨rfl, I.xv⟩, I.ve⟩
  · have qb : (d == 99) = false := by simpa using q
    rw [qb] at h2 ⊢
    obtain ⟨h3, h5⟩ := ba (show ((T.xks.contains d && T.xcs.contains d) && !(decide (T.xc d = "ValueError"))) = true from h2)
    obtain ⟨h3, h4⟩ := ba h3
    have hd : d ∈ T.xcs := by simpa using h4
    have nv : T.xc d ≠ "ValueError" := fun z => by rw [decide_eq_true z] at h5; cases h5
    have e : xnm T d = T.xc d := if_neg q
    rw [e]
    refine ⟨.inr ⟨nv, (g.xc d hd).at_⟩, ?_⟩
    unfold cvU
    rw [if_neg nv]
    exact kit_own g.xm hc hd
theorem clss_at (g : GS T G n cm W X) (hc : c ∈ T.xcs) (I : XcI X.K X.mg T c) : ∀ (ys : List Nat) (es : List Expr), ckClss T X.env.scope ys es = true → ∃ xs : List Str, Paired (fun y e => ∃ yp, e = Expr.Name y yp) xs es ∧
    (∀ y ∈ xs, Gl X y ∧ (y == ("__debug__" : Str)) = false ∧ cvOk X.K X.mg y) ∧ xs.length = ys.length ∧ PySem.W.kitAny X.K (.ref (He.ga X.K (T.xc c))) (xs.map (cvU X.K)) = some (tval c ys)
  | [], [], _ => ⟨[], .nil, ⟨fun y h => (nomatch h), rfl, rfl⟩⟩
  | [], _ :: _, h => by cases h
  | _ :: _, [], h => by cases h
  | d :: ys, e :: es, h => by
    unfold ckClss at h
    obtain ⟨h1, h2⟩ := ba h
    cases e <;> first | (cases h1; done) | skip
    rename_i x p
    obtain ⟨k1, k2, k3, k4⟩ := cls_at g hc I h1
    obtain ⟨xs, m1, m2, m3, m4⟩ := clss_at g hc I ys es h2
    refine ⟨x :: xs, .cons ⟨p, rfl⟩ m1, fun y hy => ?_, by rw [List.length_cons, List.length_cons, m3], ?_⟩
    · rcases List.mem_cons.mp hy with h | h
      · rw [h]; exact ⟨k1, k2, k3⟩
      · exact m2 y h
    · rw [List.map_cons]
      unfold PySem.W.kitAny
      rw [k4]
      unfold tval
      rw [List.any_cons]
      cases (d == 99 || isa c d) with
      | true => rfl
      | false => exact m4
theorem tst_at (g : GS T G n cm W X) (hc : c ∈ T.xcs) (I : XcI X.K X.mg T c) (hz : Zc (clsV X.K T c) none oe) (hf : ∃ vs, oe.data = .fields vs) {ys : List Nat} {e : Expr} (h : ckTst T X.N X.env.scope i ys e = true) :
    PE (X.suite a ((a, oe) :: pn)) e (tT i a (tval c ys)) ∧ ∀ (es : List Expr), starEach (e :: es) (X.suite a ((a, oe) :: pn)).env = (false, eval e (X.suite a ((a, oe) :: pn)).env) :: starEach es (X.suite a ((a, oe) :: pn)).env := by
  unfold ckTst at h
  split at h
  · rename_i f fp nm np C pos
    refine ⟨?_, fun _ => rfl⟩
    obtain ⟨h, h3⟩ := ba h
    obtain ⟨h1, h2⟩ := ba h
    obtain ⟨e1, g1, g2⟩ := ckG_ok h1
    subst e1
    obtain ⟨n1, n2, n3, n4⟩ := ckV_ok h2
    split at h3
    · split at h3
      · obtain ⟨k1, k2, k3, k4⟩ := cls_at g hc I h3
        refine PE.imp (pe_tst1 I.ex hz hf (Gl_of g1) (g.g.bo "isinstance" (by decide)) n1 n2 n3 n4 k1 k2 k3 k4) fun σ H Q q => ?_
        unfold tval at q
        rw [List.any_cons, List.any_nil, Bool.or_false] at q
        exact q
      · cases h3
    · obtain ⟨h3, h4⟩ := ba h3
      obtain ⟨xs, m1, m2, m3, m4⟩ := clss_at g hc I _ _ h3
      exact pe_tstN I.ex hz hf (Gl_of g1) (g.g.bo "isinstance" (by decide)) n1 n2 n3 n4 m2 m1 (by rw [m3]; exact of_decide_eq_true h4) m4
    · cases h3
  · cases h
theorem same_step {F H H' : Hp} (fh : Same F H) (s : Same H H') : Step F H F H' ∧ Same F H' := ⟨⟨Same.refl _, s, fun _ _ h => h⟩, fh.trans s⟩
def tHs (K : PySem.W.Frag) (i : Nat) (a : Addr) (c : Nat) (is : List HT) : TA := fun σ H Q => σ[i]? = some (some (.ref a)) ∧ ∃ (F0 H0 F : Hp) (ρ : En) (k : List Bool → Prop), SR K F0 H0 F ρ σ H ∧ hval c ρ is k ∧ ∀ bs H', k bs → Same H H' → bs.length = is.length → Q (bs.map V.bl) H'
theorem items_at (g : GS T G n cm W X) (hc : c ∈ T.xcs) (I : XcI X.K X.mg T c) (hz : Zc (clsV X.K T c) none oe) (hf : ∃ vs, oe.data = .fields vs) : ∀ (is : List HT) (es : List Expr), ckItems T X.N X.env.scope i is es = true → PA (X.suite a ((a, oe) :: pn)) es (tHs X.K i a c is)
  | [], [], _ => PA.imp pa_nil fun σ H Q q => by
    obtain ⟨_, F0, H0, F, ρ, k, sr, w, q⟩ := q
    exact q [] _ w (Same.refl _) rfl
  | [], _ :: _, h => by cases h
  | _ :: _, [], h => by cases h
  | it :: is, e :: es, h => by
    unfold ckItems at h
    obtain ⟨h1, h2⟩ := ba h
    have ih := items_at g hc I hz hf is es h2
    cases it with
    | t ys =>
      obtain ⟨p1, p2⟩ := tst_at (a := a) (pn := pn) g hc I hz hf (show ckTst T X.N X.env.scope i ys e = true from h1)
      refine PA.imp (pa_cons p1 ih (p2 es)) fun σ H Q q => ?_
      obtain ⟨q0, F0, H0, F, ρ, k, sr, w, q⟩ := q
      refine ⟨q0, fun H1 s1 => ⟨q0, F0, H0, F, ρ, _, sr.step (same_step sr.fh s1).1 (same_step sr.fh s1).2, w, fun bs H2 kb s2 l => ?_⟩⟩
      exact q _ H2 kb (s1.trans s2) (by rw [List.length_cons, List.length_cons, l])
    | n kk =>
      unfold ckItem at h1
      cases e <;> first | (cases h1; done) | skip
      rename_i op x p
      cases op <;> first | (cases h1; done) | skip
      cases x <;> first | (cases h1; done) | skip
      rename_i x xp
      obtain ⟨n1, n2, n3, n4⟩ := ckV_ok (show ckV X.N X.env.scope kk x = true from h1)
      refine PA.imp (pa_cons (pe_not (pe_var (X := X.suite a ((a, oe) :: pn)) n1 n2 n3 n4)) ih rfl) fun σ H Q q => ?_
      obtain ⟨q0, F0, H0, F, ρ, k, sr, w, q⟩ := q
      unfold hval at w
      split at w
      · rename_i b eb
        obtain ⟨v, ev, dv⟩ := sr.val _ _ eb
        cases dv
        exact ⟨_, ev, _, rfl, q0, F0, H0, F, ρ, _, sr, w, fun bs H2 kb s2 l => q _ H2 kb s2 (by rw [List.length_cons, List.length_cons, l])⟩
      · exact w.elim
theorem dqa_bools {K : PySem.W.Frag} {F : Hp} : ∀ bs : List Bool, DqAll K F (bs.map V.bl) (bs.map PyData.bool)
  | [] => .nil
  | b :: bs => .cons (Dq.bl b) (dqa_bools bs)
def tHd (K : PySem.W.Frag) (i : Nat) (a : Addr) (c : Nat) (hs : List HI) : TS := fun D σ H => σ[i]? = some (some (.ref a)) ∧ ∃ (F0 H0 F : Hp) (ρ : En) (k : En → Prop), SR K F0 H0 F ρ σ H ∧ hsem c hs k ρ ∧
  ∀ ρ' σ' F' H', Same F F' → SR K F0 H0 F' ρ' σ' H' → k ρ' → D.nx σ' H'
theorem item_at (g : GS T G n cm W X) (hc : c ∈ T.xcs) (I : XcI X.K X.mg T c) (hz : Zc (clsV X.K T c) none oe) (hf : ∃ vs, oe.data = .fields vs) (hi : HI) (st : Stmt) (h : ckHI T X.N X.env.scope i hi st = true) (hs : List HI) :
    PS (X.suite a ((a, oe) :: pn)) st (fun D σ H => σ[i]? = some (some (.ref a)) ∧ ∃ (F0 H0 F : Hp) (ρ : En) (k : En → Prop), SR X.K F0 H0 F ρ σ H ∧ hsem c (hi :: hs) k ρ ∧
      ∀ F' ρ' σ' H', Same F F' → σ'[i]? = some (some (.ref a)) → SR X.K F0 H0 F' ρ' σ' H' → hsem c hs k ρ' → D.nx σ' H') := by
  unfold ckHI at h
  split at h
  · rename_i y py v pos
    obtain ⟨h, h3⟩ := ba h
    obtain ⟨h1, h2⟩ := ba h
    obtain ⟨l1, l2⟩ := g.lc y h2
    have hN : (X.suite a ((a, oe) :: pn)).N.Nodup := g.g.nd
    cases hi with
    | tst j ys =>
      obtain ⟨h4, h5⟩ := ba h3
      have ji : j ≠ i := by simpa using h4
      have hj : X.N[j]? = some y := of_decide_eq_true h1
      obtain ⟨p1, _⟩ := tst_at (a := a) (pn := pn) g hc I hz hf h5
      refine PS.imp (ps_set (X := X.suite a ((a, oe) :: pn)) hN hj l1 p1 (by cases v <;> first | rfl | (unfold ckTst at h5; cases h5)) l2) fun D σ H q => ?_
      obtain ⟨q0, F0, H0, F, ρ, k, sr, w, q⟩ := q
      refine ⟨q0, fun H1 s1 => ?_⟩
      have sr1 := sr.step (same_step sr.fh s1).1 (same_step sr.fh s1).2
      exact q _ _ _ _ (Same.refl _) (by rw [List.getElem?_set_ne ji]; exact q0) (sr1.setD (Dq.bl _) j) w
    | lst j is =>
      obtain ⟨h4, h5⟩ := ba h3
      have ji : j ≠ i := by simpa using h4
      have hj : X.N[j]? = some y := of_decide_eq_true h1
      cases v <;> first | (cases h5; done) | skip
      rename_i es p
      obtain ⟨h5, h6⟩ := ba h5
      have ip := items_at (a := a) (pn := pn) g hc I hz hf is es h5
      refine PS.imp (ps_set (X := X.suite a ((a, oe) :: pn)) hN hj l1 (pe_lst ip) rfl l2) fun D σ H q => ?_
      obtain ⟨q0, F0, H0, F, ρ, k, sr, w, q⟩ := q
      refine ⟨q0, F0, H0, F, ρ, _, sr, w, fun bs H1 kb s1 l => ?_⟩
      have sr1 := sr.step (same_step sr.fh s1).1 (same_step sr.fh s1).2
      refine ⟨by rw [List.length_map, l]; exact Nat.le_trans (of_decide_eq_true h6) (by decide), fun z hz => ?_⟩
      have sr2 := sr1.step (Step.own (o := .lst (bs.map V.bl)) sr1.fh hz) (same_own sr1.fh hz)
      obtain ⟨ρ', sr3, k2⟩ := sr2.setR (B := H1) (r := .l (bs.map PyData.bool) true) (sr1.ent.h) (own_nn sr1) (rv_new sr1.fh hz (dqa_bools bs)) j (k := fun ρ' => ρ' = ρ.set j (some (.l (bs.map PyData.bool) true))) rfl
      subst k2
      exact q _ _ _ _ (Same.refl _) (by rw [List.getElem?_set_ne ji]; exact q0) sr3 kb
    | add j is =>
      obtain ⟨h4, h5⟩ := ba h3
      have ji : j ≠ i := by simpa using h4
      have hj : X.N[j]? = some y := of_decide_eq_true h1
      cases v <;> first | (cases h5; done) | skip
      rename_i e1 op e2 p
      cases e1 <;> first | (cases h5; done) | skip
      cases op <;> first | (cases h5; done) | skip
      cases e2 <;> first | (cases h5; done) | skip
      rename_i z zp es ep
      obtain ⟨h5, h6⟩ := ba h5
      obtain ⟨h5, h7⟩ := ba h5
      obtain ⟨n1, n2, n3, n4⟩ := ckV_ok h5
      have ip := items_at (a := a) (pn := pn) g hc I hz hf is es h7
      refine PS.imp (ps_set (X := X.suite a ((a, oe) :: pn)) hN hj l1 (pe_op (op_addD (X := X.suite a ((a, oe) :: pn))) (pe_var (X := X.suite a ((a, oe) :: pn)) n1 n2 n3 n4) (pe_lst ip)) rfl l2) fun D σ H q => ?_
      obtain ⟨q0, F0, H0, F, ρ, k, sr, w, q⟩ := q
      unfold hsem at w
      split at w
      · rename_i ds b eb
        obtain ⟨w0, w⟩ := w
        obtain ⟨r, xs, g1, g2, g3, g4, g5⟩ := sr.own j ds b eb
        refine ⟨_, g1, q0, F0, H0, F, ρ, _, sr, w, fun bs H1 kb s1 l => ?_⟩
        have sr1 := sr.step (same_step sr.fh s1).1 (same_step sr.fh s1).2
        have l6 : is.length ≤ 1000 := of_decide_eq_true h6
        refine ⟨by rw [List.length_map, l]; exact Nat.le_trans l6 (by decide), fun z hz => ?_⟩
        have st2 := Step.own (o := .lst (bs.map V.bl)) sr1.fh hz
        have sr2 := sr1.step st2 (same_own sr1.fh hz)
        refine ⟨F, H1, .l ds false, .l (bs.map PyData.bool) true, fun t => t = .l (ds ++ bs.map PyData.bool) true, sr2.fh, ⟨r, xs, rfl, st2.h _ _ (s1 _ _ g2), g3, g4, fun z => by cases z⟩, rv_new sr1.fh hz (dqa_bools bs), ?_, fun t v F' H' et st3 f3 rv => ?_⟩
        · exact ⟨Nat.le_trans (Nat.add_le_add w0 (by rw [List.length_map, l]; exact l6)) (by decide), rfl⟩
        · subst et
          have sr3 := sr2.step st3 f3
          obtain ⟨ρ', sr4, k2⟩ := sr3.setR (B := upd H1 z (.lst (bs.map V.bl))) (sr2.ent.h) (own_nn sr2) rv j (k := fun ρ' => ρ' = ρ.set j (some (.l (ds ++ bs.map PyData.bool) true))) rfl
          subst k2
          exact q _ _ _ _ st3.f (by rw [List.getElem?_set_ne ji]; exact q0) sr4 kb
      · exact w.elim
  · cases h
theorem hs_at (g : GS T G n cm W X) (hc : c ∈ T.xcs) (I : XcI X.K X.mg T c) (hz : Zc (clsV X.K T c) none oe) (hf : ∃ vs, oe.data = .fields vs) : ∀ (hs : List HI) (ss : List Stmt), ckHs T X.N X.env.scope i hs ss = true → PSs (X.suite a ((a, oe) :: pn)) ss (tHd X.K i a c hs)
  | [], [], _ => PSs.imp pss_nil fun D σ H q => by
    obtain ⟨q0, F0, H0, F, ρ, k, sr, w, q⟩ := q
    exact q _ _ _ _ (Same.refl _) sr w
  | [], _ :: _, h => by cases h
  | _ :: _, [], h => by cases h
  | hi :: hs, st :: ss, h => by
    unfold ckHs at h
    obtain ⟨h1, h2⟩ := ba h
    refine PSs.imp (pss_cons (item_at (a := a) (pn := pn) g hc I hz hf hi st h1 hs) (hs_at g hc I hz hf hs ss h2)) fun D σ H q => ?_
    obtain ⟨q0, F0, H0, F, ρ, k, sr, w, q⟩ := q
    exact ⟨q0, F0, H0, F, ρ, k, sr, w, fun F1 ρ' σ' H' s1 e1 sr' w' => ⟨e1, F0, H0, F1, ρ', k, sr', w', fun ρ2 σ2 F2 H2 s2 => q ρ2 σ2 F2 H2 (s1.trans s2)⟩⟩
end
end DL
end
section
set_option maxRecDepth 100000
set_option maxHeartbeats 4000000
namespace DL
open PySem PySem.Spec PyProof.Rows L2
abbrev hold (X : Cx) (p : Addr × Obj) : Cx := { X with pn := p :: X.pn }
section
variable {X : Cx} {p : Addr × Obj} {pins : List (Addr × Obj)} {σ : List (Option V)} {H : Hp} {s : Shared}
theorem hold_ok (ok : X.Ok) : (hold X p).Ok := by
  obtain ⟨a1, a2, a3, a4, a5, a6, a7, a8, a9, b1, b2, b3, b4, b5, b6, b7, b8, b9⟩ := ok
  exact ⟨a1, a2, a3, a4, a5, a6, a7, a8, a9, b1, b2, b3, b4, b5, b6, b7, b8, b9⟩
theorem hold_in {a : Addr} (I : Inv (X.suite a (p :: (X.pn ++ pins))) [] σ H s) (ok : X.Ok) : Inv (hold X p) pins σ H s := by
  obtain ⟨_, a2, a3, a4, a5, a6, a7, a8, a9, b1, b2⟩ := I
  exact ⟨hold_ok ok, a2, a3, a4, a5, a6, a7, a8, fun q hq => a9 q (by simpa using hq), b1, b2⟩
theorem hold_out (I : Inv (hold X p) pins σ H s) (ok : X.Ok) : Inv X pins σ H s := by
  obtain ⟨_, a2, a3, a4, a5, a6, a7, a8, a9, b1, b2⟩ := I
  exact ⟨ok, a2, a3, a4, a5, a6, a7, a8, fun q hq => a9 q (List.mem_cons_of_mem _ hq), b1, b2⟩
theorem hold_sp {D : Ends} {f : Flow} (ok : X.Ok) (h : SP (hold X p) pins D f s) : SP X pins D f s := by
  cases f with
  | next => obtain ⟨u, v, I, q⟩ := h; exact ⟨u, v, hold_out I ok, q⟩
  | brk => obtain ⟨u, v, I, q⟩ := h; exact ⟨u, v, hold_out I ok, q⟩
  | cont => obtain ⟨u, v, I, q⟩ := h; exact ⟨u, v, hold_out I ok, q⟩
  | ret r => obtain ⟨x, u, v, I, e, q⟩ := h; exact ⟨x, u, v, hold_out I ok, e, q⟩
def wCt (K : PySem.W.Frag) (c : Value) (i : Nat) (ts tr : Addr → Value → Option Addr → TS) (D : Ends) : WX := fun cls d σ H =>
  PySem.W.exmOne K cls c = some true ∧ ∀ a, H a = none → ts a cls d { D with nx := fun σ' H' => tr a cls d D (σ'.set i none) H', bk := fun _ _ => False, ct := fun _ _ => False, rt := fun _ _ => False } (σ.set i (some (.ref a))) H
theorem gone_to {i : Nat} {n : Str} {ps : Pos} {M : Model} {A : Around} {E : Value → Shared → Prop} {Q : Unit → Shared → Prop} {Y : Cx} (I : Inv Y pins σ H s) (nd : Y.N.Nodup) (at_ : Y.N[i]? = some n) (lc : Y.env.kindOf n = some .local) (q : ∀ s', Inv Y pins (σ.set i none) H s' → Q () s') :
    wpAny M A (do bindName Y.env n .none; unbindBehindTheSuite Y.env n ps) Q E s := gone_ok I nd at_ lc q
theorem pss_catch {x n : Str} {c : Value} {i : Nat} {body st rest : List Stmt} {s0 : Stmt} {p1 p2 p3 : Pos} {tb : WX → TS} {ts tr : Addr → Value → Option Addr → TS} {tn : TS}
    (stk : X.stack = X.env :: X.outer) (frm : X.env.frame = some X.env.locals) (nd : X.N.Nodup) (at_ : X.N[i]? = some n) (lc : X.env.kindOf n = some .local) (nm : Names X x c)
    (pb : ∀ (W : WX) (pn : List (Addr × Obj)) (xe : Value → Shared → Prop), Takes (X.tr pn xe) W → PassesOwn (model X.prog X.w) X.A X.env xe → PSs (X.tr pn xe) body (tb W))
    (psu : ∀ (a : Addr) (o : Obj) (k : Value) (d : Option Addr) (pn : List (Addr × Obj)), Zc k d o → (∃ vs, o.data = .fields vs) → PSs (X.suite a ((a, o) :: pn)) (s0 :: st) (ts a k d))
    (pr : ∀ (a : Addr) (o : Obj) (k : Value) (d : Option Addr), Zc k d o → (∃ vs, o.data = .fields vs) → PSs (hold X (a, o)) rest (tr a k d)) (pn : PSs X rest tn) :
    PSs X (.Try body [.ExceptHandler (some (.Name x p1)) (some n) (s0 :: st) p2] [] [] p3 :: rest) (fun D σ H => tb (wCt X.K c i ts tr D) { D with nx := tn D, bk := fun _ _ => False, ct := fun _ _ => False } σ H) := by
  refine ⟨fun pins s σ H D I h => wpAny_execs_cons (wpAny_Try_except ?_)⟩
  have ok := I.ok
  have top : X.A.frames = some (X.env :: X.outer) := ok.frames.trans (congrArg some stk)
  obtain ⟨xe, exe⟩ : ∃ xe : Value → Shared → Prop, xe = fun e s₁ => wpAny (model X.prog X.w) X.A (noteFrame e X.env) (fun _ s₂ => wpAny (model X.prog X.w) X.A (setFlight e none)
      (fun _ s₃ => wpAny (model X.prog X.w) X.A (handleBy e X.env [.ExceptHandler (some (.Name x p1)) (some n) (s0 :: st) p2])
        (fun f s' => match f with | .next => wpAny (model X.prog X.w) X.A (execs rest X.env) (SP X pins D) X.xe s' | f => SP X pins D f s') X.xe s₃) X.xe s₂) X.xe s₁ := ⟨_, rfl⟩
  have tk : Takes (X.tr (X.pn ++ pins) xe) (wCt X.K c i ts tr D) := fun u s' xx => ?_
  have run := (pb (wCt X.K c i ts tr D) (X.pn ++ pins) xe tk (by rw [exe]; exact PassesOwn.looking)).run [] s σ H _ (I.toTry _) h
  rotate_left
  · obtain ⟨a, B, t0, pins', σ1, H1, k, d, rfl, J0, nb, up, sky, na, os, ag, m1, m2⟩ := xx
    have J := J0.ofTry ok
    rw [show (X.tr (X.pn ++ pins) _).stack = X.stack from rfl, stk] at sky
    show xe (.ref a) s'
    rw [exe]
    refine Sky.land Zc.steady top frm sky fun h1 f1 u1 => ?_
    obtain ⟨o1, vs1, e1, z1, d1⟩ := f1.there
    have out : a ∉ frs (X.env :: X.outer) := fun hm => by
      obtain ⟨_, o', e', nf⟩ := f1.2.2.1.mem hm
      exact nf vs1 ((congrArg Obj.data (Option.some.inj (e'.symm.trans e1))).trans d1)
    have no1 : a ≠ X.env.locals := fun z => out (List.mem_filterMap.mpr ⟨X.env, List.mem_cons_self, by rw [frm, z]⟩)
    have no2 : a ∉ X.fs := fun hm => by
      obtain ⟨v, hv, q⟩ := List.mem_filterMap.mp hm
      exact out (List.mem_filterMap.mpr ⟨v, List.mem_cons_of_mem _ hv, q⟩)
    have I1 : Inv X pins σ1 H1 { s' with heap := h1 } := J.landed nb f1.1 (up.trans u1) os ag
    have S1 := I1.suite e1 d1 na no1 no2
    refine wpAny_handleBy_cons (codeAny_handlers_test ?_) (by intro q; cases q)
    have look := PySem.W.exm_one (M := model X.prog X.w) I1.kIn (fun A Q E s k' q => wpAny_typeOf_ref (k' _ _ e1) (by rw [z1.1]; exact q)) m1
    have name : ∀ {Q : Value → Shared → Prop} {E : Value → Shared → Prop}, Q c { s' with heap := h1 } → wpAny (model X.prog X.w) (X.A.mark (some (.ref a))) (eval (.Name x p1) X.env) Q E { s' with heap := h1 } := fun {Q E} q => by
      obtain ⟨g1, g2, g3 | ⟨g3, g4, g5⟩⟩ := nm
      · exact ld_glob S1 g1 g3 q g2
      · exact ld_blt S1 g1 g3 g4 q g5 g2
    refine name (look.here ?_)
    refine codeAny_handlers_suite_as (HandSPX.lands_againZ f1 fun h2 f2 u2 => ?_)
    obtain ⟨o2, vs2, e2, z2, d2⟩ := f2.there
    have S2 := (show Inv X pins σ1 H1 { s' with heap := h2 } from J.landed nb f2.1 ((up.trans u1).trans u2) os ag).suite e2 d2 na no1 no2
    refine store_ok (X := X.suite a ((a, o2) :: (X.pn ++ pins))) (v := .ref a) S2 nd at_ (.inl lc) rfl (fun s5 S5 => ?_) (.inr lc)
    refine wpAny_mono ((psu a o2 k d (X.pn ++ pins) z2 ⟨_, d2⟩).run [] s5 _ H1 _ S5 (m2 a na)) (fun f s6 hsp => ?_) fun _ _ z => z.elim
    cases f with
    | next =>
      obtain ⟨σ6, H6, S6, q6⟩ := hsp
      exact gone_to (Y := hold X (a, o2)) (hold_in S6 ok) nd at_ lc fun s7 J7 => wpAny_mono ((pr a o2 k d z2 ⟨_, d2⟩).run pins s7 _ _ D J7 q6) (fun f8 s8 z => hold_sp ok z) fun _ _ z => z
    | brk => obtain ⟨_, _, _, z⟩ := hsp; exact z.elim
    | cont => obtain ⟨_, _, _, z⟩ := hsp; exact z.elim
    | ret u => obtain ⟨_, _, _, _, _, z⟩ := hsp; exact z.elim
  · rw [exe] at run
    refine wpAny_mono run (fun f s1 hsp => ?_) fun e s1 he => he
    cases f with
    | next =>
      obtain ⟨σ1, H1, J, q⟩ := hsp
      exact wpAny_execs_nil (pn.run pins s1 σ1 H1 D (J.ofTry ok) q)
    | brk => obtain ⟨_, _, _, z⟩ := hsp; exact z.elim
    | cont => obtain ⟨_, _, _, z⟩ := hsp; exact z.elim
    | ret u =>
      obtain ⟨v, σ1, H1, J, r, q⟩ := hsp
      exact ⟨v, σ1, H1, J.ofTry ok, r, q⟩
end
end DL
end
section
set_option maxRecDepth 100000
set_option maxHeartbeats 4000000
namespace DL
open PySem PySem.Spec PyProof.Rows L2
section
variable {Y : Cx} {a D : Addr} {oe : Obj}
theorem pin_at {pins : List (Addr × Obj)} {σ : List (Option V)} {H : Hp} {s : Shared} (m : (a, oe) ∈ Y.pn) (I : Inv Y pins σ H s) (hz : Zc (.ref D) none oe) (hf : ∃ vs, oe.data = .fields vs) : PySem.W.InstAt s.heap a oe D none := by
  have g := (I.pin (a, oe) (List.mem_append.mpr (.inl m))).1
  obtain ⟨vs, hv⟩ := hf
  obtain ⟨c1, c2, c3, c4⟩ := oe
  obtain ⟨k1, k2⟩ := hz
  dsimp only at k1 k2 hv
  subst k1 k2 hv
  exact ⟨g, rfl, rfl, trivial⟩
theorem call_isY (m : (a, oe) ∈ Y.pn) (C : ExcC Y.K D) (hz : Zc (.ref D) none oe) (hf : ∃ vs, oe.data = .fields vs) : CallR Y (.builtin "isinstance") (rIsE Y.K D a) := by
  intro pins s σ H xs us Q I r ⟨c, cv, b, e0, hcv, e, q⟩
  subst e0
  cases r with
  | cons r1 r2 =>
    cases r2 with
    | cons r2 r3 =>
      cases r3
      cases r1
      rw [hcv _ r2]
      exact PySem.W.kia_one (PySem.W.handS_kitx_exc C.hg C.hk C.hs C.hd C.ha C.hn C.ht C.hm) I.kIn (pin_at m I hz hf) e (fun z => nomatch z) fun tk => ⟨.bl b, H, I.kept (t' := tk) fun _ _ z => z, rfl, q⟩
theorem call_isYT (m : (a, oe) ∈ Y.pn) (C : ExcC Y.K D) (hz : Zc (.ref D) none oe) (hf : ∃ vs, oe.data = .fields vs) : CallR Y (.builtin "isinstance") (rIsET Y.K D a) := by
  intro pins s σ H xs us Q I r ⟨tp, cs, ws, b, e0, hT, k, e, q⟩
  subst e0
  cases r with
  | cons r1 r2 =>
    cases r2 with
    | cons r2 r3 =>
      cases r3
      cases r1
      cases r2
      obtain ⟨_, its, rv, o, h1, h2, n, h3⟩ := (show ObjOk Y.prog Y.w H s.heap tp (.tup cs) from I.hok tp _ hT)
      have e3 := ClsV.all k rv
      subst e3
      obtain ⟨oc, od, dt, sl⟩ := o
      simp only at h2 h3
      subst h2 h3
      exact PySem.W.kia_tup (PySem.W.handS_kitx_exc C.hg C.hk C.hs C.hd C.ha C.hn C.ht C.hm) I.kIn (pin_at m I hz hf) h1 e (fun z => nomatch z) fun tk => ⟨.bl b, H, I.kept (t' := tk) fun _ _ z => z, rfl, q⟩
end
section
variable {T : Tb} {G : Nat → DSp} {n : Nat} {cm : Bool} {W : WX} {X : Cx} {a : Addr} {oe : Obj} {c i : Nat}
theorem tstY_at (g : GS T G n cm W X) (hc : c ∈ T.xcs) (I : XcI X.K X.mg T c) (hz : Zc (clsV X.K T c) none oe) (hf : ∃ vs, oe.data = .fields vs) {ys : List Nat} {e : Expr} (h : ckTst T X.N X.env.scope i ys e = true) : PE (hold X (a, oe)) e (tT i a (tval c ys)) ∧ PT (hold X (a, oe)) e (tB (tT i a (tval c ys))) := by
  have mm : (a, oe) ∈ (hold X (a, oe)).pn := List.mem_cons_self
  unfold ckTst at h
  split at h
  · rename_i f fp nm np C pos
    obtain ⟨h, h3⟩ := ba h
    obtain ⟨h1, h2⟩ := ba h
    obtain ⟨e1, g1, g2⟩ := ckG_ok h1
    subst e1
    obtain ⟨n1, n2, n3, n4⟩ := ckV_ok h2
    have pn1 : PE (hold X (a, oe)) (.Name nm np) (tVar i) := pe_var n1 n2 n3 n4
    split at h3
    · split at h3
      · obtain ⟨k1, k2, k3, k4⟩ := cls_at g hc I h3
        refine ⟨?key, pt_val ?key⟩
        case key =>
          refine PE.imp (pe_callB (call_isY mm I.ex hz hf) (Gl_of g1) (g.g.bo "isinstance" (by decide)) PyProof.Rows.boot_isinstance (pa_cons pn1 (pa_cons (pe_cls (X := hold X (a, oe)) k1 k2 k3) pa_nil))) fun σ H Q q => ?_
          obtain ⟨q1, q2⟩ := q
          unfold tval at q2
          rw [List.any_cons, List.any_nil, Bool.or_false] at q2
          exact ⟨_, q1, _, _, _, rfl, fun u hu => cv_rel hu, k4, q2 _ (Same.refl _)⟩
      · cases h3
    · obtain ⟨h3, h4⟩ := ba h3
      obtain ⟨xs, m1, m2, m3, m4⟩ := clss_at g hc I _ _ h3
      refine ⟨?key, pt_val ?key⟩
      case key =>
        refine PE.imp (pe_callB (call_isYT mm I.ex hz hf) (Gl_of g1) (g.g.bo "isinstance" (by decide)) PyProof.Rows.boot_isinstance (pa_cons pn1 (pa_cons (pe_tup (pa_cls xs _ (hold X (a, oe)) m2 m1)) pa_nil))) fun σ H Q q => ?_
        obtain ⟨q1, q2⟩ := q
        refine ⟨_, q1, Nat.le_trans (by rw [List.length_map, m3]; exact of_decide_eq_true h4) (by decide), fun t ht => ?_⟩
        exact ⟨t, _, _, _, rfl, upd_same, cv_paired xs, m4, q2 _ (same_upd ht)⟩
    · cases h3
  · cases h
theorem pw_no {Y : Cx} {e : Expr} : PW Y e (fun _ _ _ => False) := ⟨fun _ _ _ _ _ _ _ h => h.elim⟩
theorem pss_no0 {Y : Cx} {e : List Stmt} : PSs Y e (fun _ _ _ => False) := ⟨fun _ _ _ _ _ _ h => h.elim⟩
theorem tc_rest (g : GS T G n cm W X) (hc : c ∈ T.xcs) (I : XcI X.K X.mg T c) (hz : Zc (clsV X.K T c) none oe) (hf : ∃ vs, oe.data = .fields vs) {k y1 y2 : Nat} {zs : List Nat} {t1 t2 t3 : Expr} {y : Str} {q1 q2 q3 q4 q5 q6 q7 q8 q9 q10 q11 : Pos} {j1 j2 : Nat}
    (hy : ckV X.N X.env.scope k y = true) (h1 : ckTst T X.N X.env.scope k [y1] t1 = true) (h2 : ckTst T X.N X.env.scope k [y2] t2 = true) (h3 : ckTst T X.N X.env.scope k zs t3 = true) :
    PSs (hold X (a, oe)) [.If (.BoolOp .Or [.Compare (.Name y q1) [.Is] [.Constant .none j1 q2] q3, .UnaryOp .Not t1 q4, .UnaryOp .Not t2 q5] q6) [.Return (some (.Constant (.bool false) j2 q7)) q8] [] q9, .Return (some (.UnaryOp .Not t3 q10)) q11]
      (fun D σ H => σ[k]? = some (some (.ref a)) ∧ ∀ H', Same H H' → D.rt (.bl (tcB c y1 y2 zs)) H') := by
  obtain ⟨n1, n2, n3, n4⟩ := ckV_ok hy
  have p1 := tstY_at (a := a) g hc I hz hf h1
  have p2 := tstY_at (a := a) g hc I hz hf h2
  have p3 := tstY_at (a := a) g hc I hz hf h3
  have pv : PE (hold X (a, oe)) (.Name y q1) (tVar k) := pe_var n1 n2 n3 n4
  refine PSs.imp (pss_cons (ps_if (PW.pt (pw_or (pt_cmp (pc_isN pv)) (pw_or (pt_not p1.2) (pw_or1 (pt_not p2.2))))) (pss_one (ps_ret pe_bl)) pss_nil) (pss_one (ps_ret (pe_not p3.1)))) fun D σ H q => ?_
  obtain ⟨e, q⟩ := q
  unfold tcB at q
  refine ⟨_, e, _, rfl, ?_⟩
  show tOr (tNot (tB (tT k a (tval c [y1])))) (tNot (tB (tT k a (tval c [y2])))) σ H _
  refine ⟨e, fun H1 s1 => ⟨_, rfl, ?_⟩⟩
  cases b1 : tval c [y1] with
  | false =>
    rw [b1] at q
    exact q H1 s1
  | true =>
    rw [b1] at q
    refine ⟨e, fun H2 s2 => ⟨_, rfl, ?_⟩⟩
    cases b2 : tval c [y2] with
    | false =>
      rw [b2] at q
      exact q H2 (s1.trans s2)
    | true =>
      rw [b2] at q
      exact ⟨e, fun H3 s3 => ⟨_, rfl, q H3 ((s1.trans s2).trans s3)⟩⟩
theorem tc_none {k : Nat} {t1 t2 t3 : Expr} {y : Str} {q1 q2 q3 q4 q5 q6 q7 q8 q9 q10 q11 : Pos} {j1 j2 : Nat} (hy : ckV X.N X.env.scope k y = true) :
    PSs X [.If (.BoolOp .Or [.Compare (.Name y q1) [.Is] [.Constant .none j1 q2] q3, .UnaryOp .Not t1 q4, .UnaryOp .Not t2 q5] q6) [.Return (some (.Constant (.bool false) j2 q7)) q8] [] q9, .Return (some (.UnaryOp .Not t3 q10)) q11]
      (fun D σ H => σ[k]? = some (some .non) ∧ D.rt (.bl false) H) := by
  obtain ⟨n1, n2, n3, n4⟩ := ckV_ok hy
  have pv : PE X (.Name y q1) (tVar k) := pe_var n1 n2 n3 n4
  refine PSs.imp (pss_cons (ps_if (PW.pt (pw_or (pt_cmp (pc_isN pv)) pw_no)) (pss_one (ps_ret pe_bl)) pss_nil) pss_no0) fun D σ H q => ?_
  obtain ⟨e, q⟩ := q
  exact ⟨_, e, _, rfl, q⟩
theorem tc_ok {b : Ss} {i k y1 y2 : Nat} {zs xs : List Nat} {x n0 y0 : Str} {p su rs : List Stmt} {r1 r2 r3 r4 r5 r6 : Pos} {j : Nat} (g : GS T G n cm W X)
    (hb : ∀ (W' : WX) (pn : List (Addr × Obj)) (xe : Value → Shared → Prop), Takes (X.tr pn xe) W' → PassesOwn (model X.prog X.w) X.A X.env xe → PSs (X.tr pn xe) p (tS X.K T W' (wSs G b)))
    (hx : xs.all (fun z => T.xcs.contains z && T.xks.contains z) = true) (hy0 : ckN X.N k y0 = true) (hl0 : isLoc (X.env.scope.names.lookup y0) = true) (h : ckTC T X.N X.env.scope i k y1 y2 zs x n0 su rs = true) :
    PSs X (.Assign [.Name y0 r1] (.Constant .none j r2) r3 :: .Try p [.ExceptHandler (some (.Name x r4)) (some n0) su r5] [] [] r6 :: rs) (tS X.K T W (wS G (.tryC b i k y1 y2 zs xs))) := by
  unfold ckTC at h
  split at h
  · obtain ⟨h, c12⟩ := ba h
    obtain ⟨h, c11⟩ := ba h
    obtain ⟨h, c10⟩ := ba h
    obtain ⟨h, c9⟩ := ba h
    obtain ⟨h, c8⟩ := ba h
    obtain ⟨h, c7⟩ := ba h
    obtain ⟨h, c6⟩ := ba h
    obtain ⟨h, c5⟩ := ba h
    obtain ⟨h, c4⟩ := ba h
    obtain ⟨h, c3⟩ := ba h
    obtain ⟨c1, c2⟩ := ba h
    have ik : i ≠ k := by simpa using c1
    have h0 : 0 ∈ T.xcs := by simpa using c3
    obtain ⟨e0, g1, g2⟩ := ckG_ok c2
    subst e0
    have xt := g.xc 0 h0
    have hi : X.N[i]? = some n0 := of_decide_eq_true c4
    have hln : X.env.kindOf n0 = some .local := by
      have c9 : X.env.scope.names.lookup n0 = some .local := by simpa using c5
      exact c9
    have hk : X.N[k]? = some _ := of_decide_eq_true c6
    have hk0 : X.N[k]? = some y0 := of_decide_eq_true hy0
    obtain ⟨l1, l2⟩ := g.lc _ c7
    obtain ⟨m1, m2⟩ := g.lc _ hl0
    obtain ⟨v1, v2, v3, v4⟩ := ckV_ok c8
    refine PSs.imp (pss_cons (ps_set g.g.nd hk0 m1 pe_non rfl m2) (pss_catch (c := clsV X.K T 0) (i := i) (tb := fun W' => tS X.K T W' (wSs G b))
      (ts := fun a _ _ D σ H => σ[i]? = some (some (.ref a)) ∧ D.nx (σ.set k (some (.ref a))) H)
      (tr := fun a cls d D σ H => ∃ c', c' ∈ T.xcs ∧ c' ∈ T.xks ∧ cls = clsV X.K T c' ∧ d = none ∧ σ[k]? = some (some (.ref a)) ∧ ∀ H', Same H H' → D.rt (.bl (tcB c' y1 y2 zs)) H')
      g.st g.fr g.g.nd hi hln ⟨Gl_of g1, g2, .inl xt.at_⟩ hb
      (fun a oe cls d pn hz hf => PSs.imp (pss_one (ps_set (X := X.suite a ((a, oe) :: pn)) g.g.nd hk l1 (pe_var (X := X.suite a ((a, oe) :: pn)) v1 v2 v3 v4) rfl l2)) fun D σ H q => ⟨_, q.1, q.2⟩)
      (fun a oe cls d hz hf => ⟨fun pins s σ H D J hh => ?_⟩) (tc_none c9))) fun D σ H q => ?_
    · obtain ⟨c', h1, h2, rfl, rfl, e, q⟩ := hh
      exact (tc_rest g h1 (g.xi c' h2) hz hf c9 c10 c11 c12).run pins s σ H D J ⟨e, q⟩
    obtain ⟨F0, H0, F, ρ, Z, sr, w, l⟩ := q
    unfold wS at w
    obtain ⟨w1, w2⟩ := w
    refine ⟨F0, H0, F, _, _, sr.setD Dq.non k, w2, ⟨fun ρ' σ' F' H' s1 sr1 z => ?_, fun _ _ _ _ _ _ z => z.elim, l.rt, fun c ρ' σ' F' H' s1 sr1 z => ?_⟩⟩
    · obtain ⟨z1, z2⟩ := z
      obtain ⟨v, ev, dv⟩ := sr1.val k _ z1
      cases dv
      exact ⟨ev, l.rt (.d (.bool false)) _ F' H' s1 sr1.ent sr1.fh (Dq.bl false) z2⟩
    · obtain ⟨z1, z2, z3, z4⟩ := z
      obtain ⟨q1, q2⟩ := ba (show (T.xcs.contains c && T.xks.contains c) = true from List.all_eq_true.mp hx c z1)
      have q1 : c ∈ T.xcs := by simpa using q1
      have q2 : c ∈ T.xks := by simpa using q2
      refine ⟨by rw [g.xm c q1 0 h0]; simp [isa], fun a na => ⟨by rw [List.getElem?_set_self (by rw [sr1.len]; exact z2)], c, q1, q2, rfl, rfl, ?_, fun H2 s2 => ?_⟩⟩
      · rw [List.getElem?_set_ne ik, List.getElem?_set_self (by rw [List.length_set, sr1.len]; exact z3)]
      · obtain ⟨st, fh⟩ := same_step sr1.fh s2
        exact l.rt (.d (.bool (tcB c y1 y2 zs))) _ F' H2 s1 (sr1.ent.trans st) fh (Dq.bl _) z4
  · cases h
end
end DL
end
section
set_option maxRecDepth 100000
set_option maxHeartbeats 4000000
namespace DL
open PySem PySem.Spec PyProof.Rows L2
def keyP (v : Vec) : List Key := [.inl v.1, .inl v.2]
def pairV (v : Vec) : List V := [.int v.1, .int v.2]
theorem isKeys_zip {H : Hp} : ∀ {kvs : List (List Key × V)} {bs : List Addr} {ks : List Vec}, IsKeys H kvs bs → kvs.map (·.1) = ks.map keyP → ∃ L : List (Addr × Vec), L.map (·.1) = bs ∧ L.map (·.2) = ks ∧ ∀ q ∈ L, H q.1 = some (.tup (pairV q.2))
  | [], bs, ks, h, e => by
    cases h
    cases ks with
    | nil => exact ⟨[], rfl, rfl, fun q hq => (nomatch hq)⟩
    | cons k ks => cases e
  | kv :: kvs, bs, ks, h, e => by
    cases ks with
    | nil => cases e
    | cons k ks =>
      cases h with
      | cons h1 h2 =>
        rename_i b bs
        rw [List.map_cons, List.map_cons, List.cons.injEq] at e
        obtain ⟨L, e1, e2, e3⟩ := isKeys_zip h2 e.2
        refine ⟨(b, k) :: L, by rw [List.map_cons, e1], by rw [List.map_cons, e2], fun q hq => ?_⟩
        rcases List.mem_cons.mp hq with h | h
        · rw [h]
          rw [e.1] at h1
          exact h1
        · exact e3 q h
section
variable {X : Cx}
theorem call_sortedDT (hc : X.calm = true) : CallR X (.builtin "sorted") (fun xs H Q => ∃ (d : Addr) (kvs : List (List Key × V)) (ks : List Vec), xs = [V.ref d] ∧ Rd H d (.dT kvs) ∧ kvs.map (·.1) = ks.map keyP ∧ ks.length ≤ 2047 ∧ ks.Nodup ∧
    ∀ p (L : List (Addr × Vec)), H p = none → (∀ q ∈ L, H q.1 = some (.tup (pairV q.2))) → (L.map (·.2)).Perm ks → L.Pairwise (fun q r => SrtO.lexB r.2 q.2 = false) → Q (.ref p) (upd H p (.lst (L.map fun q => V.ref q.1)))) := by
  intro pins s σ H xs us Q I r h
  obtain ⟨d, kvs, kk, rfl, hd, hkk, few, nd, q⟩ := h
  obtain ⟨u, rfl, rx⟩ := r.one
  cases rx
  obtain ⟨z, hs, ks, pr, o, es, ep, ho, hx, hdt, he, hn⟩ := (show ObjOk X.prog X.w H s.heap d (.dT kvs) from hd.ok I.hok)
  have l1 : es.size = ks.length := size_of_entries he
  have l2 : kvs.length = ks.length := Paired.length pr
  have l3 : kvs.length = kk.length := by
    have := congrArg List.length hkk
    rw [List.length_map, List.length_map] at this
    exact this
  refine Calls.call_function_entry PyProof.Rows.kind_sorted PyProof.Rows.plain_sorted PyProof.Rows.entry_sorted (PyProof.Rows.args_sorted1 _) ?_
  unfold Builtin.«sorted»
  refine wpAny_bind (m := checkCount "sorted" 1 1 _) (wpAny_pure ?_)
  refine wpAny_bind (PySem.W.kdu_collect (A := X.A.in1) (kdl_raw hs hx hdt) (I.ok.hd hc) ho (by omega) fun h' tk acc' kp it => ?_)
  have ea : acc'.toList = ks.map fun x => Value.ref x.2.1 := by
    have hl : acc'.toList.length = ks.length := by rw [Array.length_toList, it.1]; exact l1
    apply List.ext_getElem?
    intro j
    rw [List.getElem?_map]
    cases hj : acc'.toList[j]? with
    | none =>
      have h1 := List.getElem?_eq_none_iff.mp hj
      rw [List.getElem?_eq_none (by omega)]
      all_goals rfl
    | some v =>
      obtain ⟨en, hen, hv⟩ := it.2 j v (by rw [← Array.getElem?_toList]; exact hj)
      have qe := entry_at he j
      rw [hen] at qe
      cases hb : ks[j]? with
      | none =>
        rw [hb] at qe
        exact nomatch (show some en = none from qe)
      | some b =>
        rw [hb] at qe
        have e2 : en = entryOfKey (tupleKind (mixKind X.prog X.w)) b := Option.some.inj qe
        rw [hv, e2]
        all_goals rfl
  obtain ⟨L, eL1, eL2, eL3⟩ := isKeys_zip (isKeys_of pr) hkk
  have I1 : Inv X pins σ H { s with heap := h', toks := tk } := I.kept kp
  have vs_ : acc'.toList = L.map fun q => Value.ref q.1 := by
    have e9 := congrArg (List.map Value.ref) eL1
    rw [List.map_map, List.map_map] at e9
    rw [ea]
    exact e9.symm
  have lenL : L.length = kk.length := by rw [← eL2, List.length_map]
  have szl : acc'.toList.length ≤ sizeLine := by rw [vs_, List.length_map, lenL, sizeLine_eq]; omega
  refine wpAny_bind (wpAny_newList ?_ szl)
  obtain ⟨vs, evs⟩ : ∃ vs, acc'.toList = vs := ⟨_, rfl⟩
  rw [evs] at vs_ szl ⊢
  obtain ⟨s1, es1⟩ : ∃ s1 : Shared, s1 = { s with heap := h', toks := tk } := ⟨_, rfl⟩
  rw [← es1] at I1 ⊢
  have k1 : ∀ b u, s.heap.get? b = some u → s1.heap.get? b = some u := by rw [es1]; exact kp
  have at_ : (s1.heap.push (seqObj "list" vs.toArray 0)).get? s1.heap.objs.size = some (seqObj "list" vs.toArray 0) := Heap.get?_push_size _ rfl
  have pr : ∀ q ∈ L, Srt.IsPair (s1.heap.push (seqObj "list" vs.toArray 0)) (.ref q.1) q.2.1 q.2.2 := fun q hq =>
    isPair_of (k := [q.2.1, q.2.2]) (isT_keep (I1.isT (k := [q.2.1, q.2.2]) (.inl (.inl (eL3 q hq)))) fun b u e => Heap.get?_push_of_some _ e) rfl
  obtain ⟨H1, eH⟩ : ∃ H1, s1.heap.push (seqObj "list" vs.toArray 0) = H1 := ⟨_, rfl⟩
  rw [eH] at at_ pr
  have prv : ∀ v ∈ vs, Srt.IsPair H1 v (pairAt H1 v).1 (pairAt H1 v).2 := fun v hv => by
    rw [vs_] at hv
    obtain ⟨q, hq, rfl⟩ := List.mem_map.mp hv
    rw [pairAt_eq (pr q hq)]
    exact pr q hq
  refine wpAny_bind (wpAny_holding ?_)
  show wpAny _ _ _ _ _ { s1 with heap := s1.heap.push (seqObj "list" vs.toArray 0) }
  rw [eH]
  refine wpAny_call_entry slot_list_sort ⟨_, at_, rfl⟩ entry_list_sort (SrtO.list_sort_ord (s := { s1 with heap := H1 }) (SrtO.swo_lex (pairAt H1)) at_ szl (fun h2 => SrtO.pairs_sortableO (by omega) prv fun o e c => ?_) fun out hs hb => ⟨_, rfl, ?_⟩) (args_list_sort _)
  · have e' : some o = some (seqObj "list" vs.toArray 0) := e.symm.trans at_
    cases e'
    exact absurd (Value.type.inj c) (by decide)
  · obtain ⟨c, hc'⟩ := sortedHeap_at (vs := vs) (out := out.toArray) at_
    have pmv : out.Perm (L.map fun q => Value.ref q.1) := by rw [← vs_]; exact hb.perm
    obtain ⟨L', e', sub⟩ : ∃ L' : List (Addr × Vec), out = L'.map (fun q => Value.ref q.1) ∧ ∀ q ∈ L', q ∈ L := by
      have go : ∀ vs : List Value, (∀ v ∈ vs, ∃ q ∈ L, v = Value.ref q.1) → ∃ L1 : List (Addr × Vec), vs = L1.map (fun q => Value.ref q.1) ∧ ∀ q ∈ L1, q ∈ L := by
        intro vs
        induction vs with
        | nil => exact fun _ => ⟨[], rfl, fun q hq => nomatch hq⟩
        | cons v vs ih =>
          intro h
          obtain ⟨q, hq, rfl⟩ := h v List.mem_cons_self
          obtain ⟨L1, rfl, h2⟩ := ih fun u hu => h u (List.mem_cons_of_mem _ hu)
          exact ⟨q :: L1, rfl, fun r hr => (List.mem_cons.mp hr).elim (fun e => by rw [e]; exact hq) (h2 r)⟩
      exact go out fun v hv => by
        obtain ⟨q, hq, e⟩ := List.mem_map.mp (pmv.mem_iff.mp hv)
        exact ⟨q, hq, e.symm⟩
    have one : ∀ q ∈ L, ∀ r ∈ L, q.1 = r.1 → q = r := fun q hq r hr e => by
      have a1 := eL3 q hq
      have a2 := eL3 r hr
      rw [e] at a1
      rw [a1] at a2
      unfold pairV at a2
      have e2 : q.2 = r.2 := by
        have e3 := Option.some.inj a2
        injection e3 with e3
        injection e3 with e3 e4
        injection e4 with e4
        injection e3 with e3
        injection e4 with e4
        exact Prod.ext e3 e4
      exact Prod.ext e e2
    have p1 : (L'.map fun q => Value.ref q.1).Perm (L.map fun q => Value.ref q.1) := by rw [← e']; exact pmv
    have nL : L.Nodup := nodup_of_map (f := fun q : Addr × Vec => q.2) (by rw [eL2]; exact nd)
    have nr : (L.map fun q => Value.ref q.1).Nodup := by
      refine List.pairwise_map.mpr (List.Pairwise.imp_of_mem (fun {q r} hq hr ne e => ?_) nL)
      exact ne (one q hq r hr (by injection e))
    have pL : L'.Perm L := by
      refine (List.perm_ext_iff_of_nodup (nodup_of_map (p1.nodup_iff.mpr nr)) nL).mpr fun q => ⟨sub q, fun hq => ?_⟩
      obtain ⟨r, hr, e⟩ := List.mem_map.mp (p1.mem_iff.mpr (List.mem_map.mpr ⟨q, hq, rfl⟩))
      rw [← one r (sub r hr) q hq (by injection e)]
      exact hr
    have fr : H s1.heap.objs.size = none := I1.hok.fresh (Nat.le_refl _)
    have kk3 : ∀ b u, s1.heap.get? b = some u → (sortedHeap H1 s1.heap.objs.size vs out.toArray).get? b = some u := fun b u e => by
      have lt := Heap.lt_size e
      rw [sortedHeap_old (Nat.ne_of_lt lt) (by rw [← eH, size_push']; exact Nat.lt_succ_of_lt lt), ← eH]
      exact Heap.get?_push_of_some _ e
    have lenL' : L'.length = kk.length := by rw [pL.length_eq, lenL]
    have len' : (L'.map fun q => V.ref q.1).length ≤ sizeLine := by rw [List.length_map, lenL', sizeLine_eq]; omega
    have rvl : Vals (L'.map fun q => V.ref q.1) out := by
      rw [e']
      have := vals_refs (L'.map (·.1))
      rw [List.map_map, List.map_map] at this
      exact this
    refine wpAny_pure ⟨_, rfl, ?_⟩
    refine ⟨.ref s1.heap.objs.size, upd H s1.heap.objs.size (.lst (L'.map fun q => V.ref q.1)), ?_, rfl, q _ L' fr (fun q hq => eL3 q (sub q hq)) (by rw [← eL2]; exact pL.map _) ?_⟩
    · exact I1.laid (t' := s1.toks) (o := .lst (L'.map fun q => V.ref q.1)) kk3 (Nat.le_refl _) ⟨len', out, c, rvl, hc'⟩
    · have hs : out.Pairwise (fun u v => SrtO.lexB (pairAt H1 v) (pairAt H1 u) = false) := hs
      rw [e'] at hs
      refine List.Pairwise.imp_of_mem (fun {q r} hq hr z => ?_) (List.pairwise_map.mp hs)
      rw [pairAt_eq (pr q (sub q hq)), pairAt_eq (pr r (sub r hr))] at z
      exact z
def tDV (jn jv : Nat) : TE := fun σ H Q => jv < σ.length ∧ ∃ (d : Addr) (kvs : List (List Key × V)) (ks : List Vec), σ[jn]? = some (some (.ref d)) ∧ H d = some (.dT kvs) ∧ kvs.map (·.1) = ks.map keyP ∧ ks.length ≤ 2047 ∧ ks.Nodup ∧
  ∀ (L : List Vec) (vs : List V) (H1 : Hp) (p : Addr), L.Perm ks → L.Pairwise (fun q r => SrtO.lexB r q = false) → Paired (fun k v => valV kvs (keyP k) = some v) L vs → Same H H1 → H1 p = none → Q (.ref p) (upd H1 p (.lst vs))
theorem valV_in {kvs : List (List Key × V)} {k : List Key} (h : k ∈ kvs.map (·.1)) : ∃ v, valV kvs k = some v := by
  have a : (kvs.any fun kv => decide (kv.1 = k)) = true := by
    obtain ⟨kv, h1, h2⟩ := List.mem_map.mp h
    exact List.any_eq_true.mpr ⟨kv, h1, decide_eq_true h2⟩
  rw [valV_any] at a
  exact Option.isSome_iff_exists.mp a
theorem vals_for {kvs : List (List Key × V)} : ∀ L : List Vec, (∀ k ∈ L, keyP k ∈ kvs.map (·.1)) → ∃ vs, Paired (fun k v => valV kvs (keyP k) = some v) L vs
  | [], _ => ⟨[], .nil⟩
  | k :: L, h => by
    obtain ⟨v, hv⟩ := valV_in (h k List.mem_cons_self)
    obtain ⟨vs, hvs⟩ := vals_for L fun j hj => h j (List.mem_cons_of_mem _ hj)
    exact ⟨v :: vs, .cons hv hvs⟩
theorem paired_at {α β : Type} {P : α → β → Prop} : ∀ {xs : List α} {ys : List β}, Paired P xs ys → ∀ (i : Nat) (x : α), xs[i]? = some x → ∃ y, ys[i]? = some y ∧ P x y
  | _, _, .nil, i, x, h => by simp at h
  | _, _, .cons h1 h2, 0, x, h => by
    simp at h
    subst h
    exact ⟨_, rfl, h1⟩
  | _, _, .cons h1 h2, i + 1, x, h => by
    obtain ⟨y, a, b⟩ := paired_at h2 i x (by simpa using h)
    exact ⟨y, by simpa using a, b⟩
theorem dv_ok {T : Tb} {G : Nat → DSp} {n : Nat} {cm : Bool} {W : WX} {jn jv : Nat} {own : List (Str × Nat)} {e : Expr} (g : GX T G n cm W X) (hc : X.calm = true) (h : ckDv X.N X.env.scope jn jv own e = true) : PE X e (tDV jn jv) := by
  unfold ckDv at h
  split at h
  · rename_i nm ap y bp sp c pc s sq nd_ dp cp asy scope pos
    obtain ⟨h, h9⟩ := ba h
    obtain ⟨h, h8⟩ := ba h
    obtain ⟨h, h7⟩ := ba h
    obtain ⟨h, h6⟩ := ba h
    obtain ⟨h, h5⟩ := ba h
    obtain ⟨h, h4⟩ := ba h
    obtain ⟨h, h3⟩ := ba h
    obtain ⟨h1, h2⟩ := ba h
    have ea := of_decide_eq_true h1
    subst ea
    obtain ⟨es, g1, g2⟩ := ckG_ok h2
    subst es
    obtain ⟨n1, n2, n3, n4⟩ := ckV_ok h3
    obtain ⟨a1, a2, a3, a4⟩ := ckV_ok h6
    obtain ⟨b1, b2, b3, b4⟩ := ckV_ok h7
    have jo : jn ∉ own.map (·.2) := by simpa using h8
    have vo : jv ∈ own.map (·.2) := by simpa using h9
    have ok := blkOk_by h4
    have pi := pi_list (tg := .Name c pc) (pe_callB (X := X) (pos := cp) (p := sq) (call_sortedDT hc) (Gl_of g1) (g.bo "sorted" (by decide)) PyProof.Rows.boot_sorted (pa_cons (pe_var (pos := dp) n1 n2 n3 n4) pa_nil))
    have hg := fun (s : Shared) (H : Hp) (C : Addr) (cl : List (Str × Addr)) (fp : List Addr) => pg_of (X := X.blk s H scope (compEnvC scope cl C X.env) fp) (sc := scope) blk_loc g.nd hc h5
    have he := fun (s : Shared) (H : Hp) (C : Addr) (cl : List (Str × Addr)) (fp : List Addr) => pe_dget (X := X.blk s H scope (compEnvC scope cl C X.env) fp) (pos := sp) (by have := (gx_blk (s := s) (H := H) (scope := scope) (C := C) (cl := cl) (fp := fp) g).hu; omega) (pe_var (X := X.blk s H scope (compEnvC scope cl C X.env) fp) (pos := ap) a1 a2 a3 a4) (pe_var (X := X.blk s H scope (compEnvC scope cl C X.env) fp) (pos := bp) b1 b2 b3 b4) (fun _ _ => rfl)
    refine PE.imp (pe_lc (pos := pos) hc g.nd pi ok hg (fun _ _ _ _ _ => pts_nil) he) fun σ H Q q => ?_
    obtain ⟨jl, d, kvs, ks, e1, e2, e3, e4, e5, q⟩ := q
    refine ⟨_, e1, ?_⟩
    refine ⟨d, kvs, ks, rfl, .inl e2, e3, e4, e5, fun p L hp hL pm pw => ?_⟩
    obtain ⟨H1, eH1⟩ : ∃ H1, H1 = upd H p (.lst (L.map fun q => V.ref q.1)) := ⟨_, rfl⟩
    have sm : Same H H1 := by rw [eH1]; exact same_upd hp
    have hpL : SqL X.K H1 p (L.map fun q => V.ref q.1) := .inl (.inl (by rw [eH1]; exact upd_same))
    rw [← eH1]
    refine ⟨p, rfl, ⟨_, hpL⟩, fun D hD => ?_⟩
    have mem : ∀ k ∈ L.map (·.2), keyP k ∈ kvs.map (·.1) := fun k hk => by
      rw [e3]
      exact List.mem_map.mpr ⟨k, pm.mem_iff.mp hk, rfl⟩
    obtain ⟨vs, hvs⟩ := vals_for (L.map (·.2)) mem
    have lvs : vs.length = L.length := by rw [← Paired.length hvs, List.length_map]
    have lL : L.length = ks.length := by rw [← pm.length_eq, List.length_map]
    have upD : ∀ o, Same H1 (upd H1 D o) := fun o => same_upd hD
    have updupd : ∀ o o', upd (upd H1 D o) D o' = upd H1 D o' := fun o o' => by
      funext b
      by_cases hb : b = D
      · subst hb; rw [upd_same, upd_same]
      · rw [upd_ne hb, upd_ne hb, upd_ne hb]
    refine ⟨fun i m Hc => m = L.length - i ∧ i ≤ L.length ∧ Hc = upd H1 D (.lst (vs.take i)), ⟨L.length, by simp, Nat.zero_le _, rfl⟩, ?_⟩
    rintro i m Hc ⟨rfl, hi, rfl⟩
    have hps : SqL X.K (upd H1 D (.lst (vs.take i))) p (L.map fun q => V.ref q.1) := SqL.mono (upD _) hpL
    by_cases hlt : i < L.length
    · refine .inr ⟨⟨_, _, hps, List.getElem?_eq_getElem (by simpa using hlt)⟩, fun H' => H' = upd H1 D (.lst (vs.take (i + 1))), fun H' e => ⟨L.length - (i + 1), by omega, rfl, by omega, e⟩, fun x H' y => ?_⟩
      obtain ⟨rfl, y⟩ := y
      have y := y _ hps
      rw [List.getElem?_map, List.getElem?_eq_getElem hlt] at y
      have ex : x = V.ref L[i].1 := (Option.some.inj y).symm
      subst ex
      refine ⟨by rw [wipe_set vo, wipe_wipe], ?_⟩
      simp only [tYes, if_true]
      have ej : ∀ x : Option V, ((wipe σ (own.map (·.2))).set jv x)[jn]? = σ[jn]? := fun x => by
        rw [List.getElem?_set_ne (fun z => jo (by rw [← z]; exact vo)), wipe_out jo]
      have vl : jv < (wipe σ (own.map (·.2))).length := by rw [wipe_length]; exact jl
      refine ⟨_, by rw [ej]; exact e1, _, by rw [List.getElem?_set_self vl], d, ?_⟩
      obtain ⟨v, hv1, hv2⟩ := paired_at hvs i L[i].2 (by rw [List.getElem?_map, List.getElem?_eq_getElem hlt]; rfl)
      refine ⟨v, rfl, ?_, vs.take i, upd_same, ?_, ?_⟩
      · have := DGet.t (H := upd H1 D (.lst (vs.take i))) (a := d) (b := L[i].1) (kvs := kvs) (k := keyP L[i].2) (upD _ _ _ (sm _ _ e2)) (upD _ _ _ (sm _ _ (hL L[i] (List.getElem_mem hlt))))
        rw [hv2] at this
        exact this
      · rw [List.length_take, sizeLine_eq]; omega
      · rw [updupd]
        congr 2
        rw [List.take_succ, hv1]
        rfl
    · have ei : i = L.length := by omega
      refine .inl ⟨⟨_, hps, by simp; omega⟩, ?_⟩
      rw [List.take_of_length_le (by omega)]
      exact q (L.map (·.2)) vs H1 D pm (List.pairwise_map.mpr pw) hvs sm hD
  · cases h
end
end DL
end
section
set_option maxRecDepth 100000
set_option maxHeartbeats 4000000
namespace DL
open PySem PySem.Spec PyProof.Rows L2
theorem keyP_inj {a b : Vec} (h : keyP a = keyP b) : a = b := by
  unfold keyP at h
  injection h with h1 h2
  injection h2 with h2
  exact Prod.ext (Sum.inl.inj h1) (Sum.inl.inj h2)
theorem keyP_dec (a b : Vec) : decide (keyP a = keyP b) = decide (a = b) := decide_eq_decide.mpr ⟨keyP_inj, fun h => by rw [h]⟩
def KA (K : PySem.W.Frag) (F : Hp) (acc : List (Vec × D)) (kvs : List (List Key × V)) : Prop := Paired (fun (a : Vec × D) (kv : List Key × V) => kv.1 = keyP a.1 ∧ Dq K F kv.2 a.2) acc kvs
theorem KA.mono {K : PySem.W.Frag} {F F' : Hp} (s : Same F F') : ∀ {acc : List (Vec × D)} {kvs : List (List Key × V)}, KA K F acc kvs → KA K F' acc kvs
  | _, _, .nil => .nil
  | _, _, .cons h t => .cons ⟨h.1, dp_mono s h.2⟩ (KA.mono s t)
theorem KA.any {K : PySem.W.Frag} {F : Hp} (k : Vec) : ∀ {acc : List (Vec × D)} {kvs : List (List Key × V)}, KA K F acc kvs → (kvs.any fun kv => decide (kv.1 = keyP k)) = (acc.any fun p => decide (p.1 = k))
  | _, _, .nil => rfl
  | _, _, .cons (a := a) (b := kv) h t => by
    rw [List.any_cons, List.any_cons, KA.any k t, h.1, keyP_dec]
theorem KA.repl {K : PySem.W.Frag} {F : Hp} {v : V} {d : D} (hv : Dq K F v d) (k : Vec) : ∀ {acc : List (Vec × D)} {kvs : List (List Key × V)}, KA K F acc kvs →
    KA K F (acc.map fun p => if p.1 = k then (p.1, d) else p) (kvs.map fun kv => if kv.1 = keyP k then (kv.1, v) else kv)
  | _, _, .nil => .nil
  | _, _, .cons (a := a) (b := kv) h t => by
    rw [List.map_cons, List.map_cons]
    refine .cons ?_ (KA.repl hv k t)
    by_cases q : a.1 = k
    · rw [if_pos q, if_pos (by rw [h.1, q])]
      exact ⟨h.1, hv⟩
    · rw [if_neg q, if_neg (fun z => q (keyP_inj (h.1.symm.trans z)))]
      exact h
theorem KA.snoc {K : PySem.W.Frag} {F : Hp} {v : V} {d : D} (hv : Dq K F v d) (k : Vec) : ∀ {acc : List (Vec × D)} {kvs : List (List Key × V)}, KA K F acc kvs → KA K F (acc ++ [(k, d)]) (kvs ++ [(keyP k, v)])
  | _, _, .nil => .cons ⟨rfl, hv⟩ .nil
  | _, _, .cons h t => .cons h (KA.snoc hv k t)
theorem KA.put {K : PySem.W.Frag} {F : Hp} {v : V} {d : D} {acc : List (Vec × D)} {kvs : List (List Key × V)} (h : KA K F acc kvs) (hv : Dq K F v d) (k : Vec) : KA K F (putA acc k d) (putK kvs (keyP k) v) := by
  unfold putA putK
  rw [h.any k]
  split
  · exact KA.repl hv k h
  · exact KA.snoc hv k h
theorem KA.keys {K : PySem.W.Frag} {F : Hp} : ∀ {acc : List (Vec × D)} {kvs : List (List Key × V)}, KA K F acc kvs → kvs.map (·.1) = (acc.map (·.1)).map keyP
  | _, _, .nil => rfl
  | _, _, .cons h t => by rw [List.map_cons, List.map_cons, List.map_cons, KA.keys t, h.1]
theorem KA.val {K : PySem.W.Frag} {F : Hp} (k : Vec) {v : V} : ∀ {acc : List (Vec × D)} {kvs : List (List Key × V)}, KA K F acc kvs → valV kvs (keyP k) = some v → ∃ d, valA acc k = some d ∧ Dq K F v d
  | _, _, .nil, h => by cases h
  | _, _, .cons (a := a) (b := kv) h t, e => by
    by_cases q : a.1 = k
    · rw [valV_pos (by rw [h.1, q])] at e
      cases e
      exact ⟨a.2, by simp [valA, List.find?_cons, q], h.2⟩
    · rw [valV_neg (fun z => q (keyP_inj (h.1.symm.trans z)))] at e
      obtain ⟨d, h1, h2⟩ := KA.val k t e
      exact ⟨d, by simpa [valA, List.find?_cons, q] using h1, h2⟩
theorem putA_keys (acc : List (Vec × D)) (k : Vec) (d : D) : (putA acc k d).map (·.1) = if k ∈ acc.map (·.1) then acc.map (·.1) else acc.map (·.1) ++ [k] := by
  unfold putA
  have e : (acc.any fun p => decide (p.1 = k)) = decide (k ∈ acc.map (·.1)) := by
    rw [Bool.eq_iff_iff, List.any_eq_true, decide_eq_true_eq, List.mem_map]
    exact ⟨fun ⟨p, h1, h2⟩ => ⟨p, h1, of_decide_eq_true h2⟩, fun ⟨p, h1, h2⟩ => ⟨p, h1, decide_eq_true h2⟩⟩
  rw [e]
  by_cases q : k ∈ acc.map (·.1)
  · rw [if_pos (decide_eq_true q), if_pos q, List.map_map]
    refine List.map_congr_left fun p _ => ?_
    show (if p.1 = k then (p.1, d) else p).1 = p.1
    split <;> rfl
  · rw [if_neg (by rw [decide_eq_false q]; decide), if_neg q, List.map_append]
    rfl
theorem putA_nodup {acc : List (Vec × D)} (h : (acc.map (·.1)).Nodup) (k : Vec) (d : D) : ((putA acc k d).map (·.1)).Nodup := by
  rw [putA_keys]
  split
  · exact h
  · rename_i q
    refine List.nodup_append.mpr ⟨h, by simp, fun a ha b hb => ?_⟩
    rw [List.mem_singleton.mp hb]
    exact fun z => q (by rw [← z]; exact ha)
theorem putA_len (acc : List (Vec × D)) (k : Vec) (d : D) : (putA acc k d).length ≤ acc.length + 1 := by
  have e := congrArg List.length (putA_keys acc k d)
  rw [List.length_map] at e
  rw [e]
  split
  · rw [List.length_map]; omega
  · rw [List.length_append, List.length_map]; simp
theorem SR.mutT {K : PySem.W.Frag} {F0 H0 F H : Hp} {ρ : En} {σ : L2.St} (x : SR K F0 H0 F ρ σ H) {a : Addr} {kvs kvs' : List (List Key × V)} (e : H a = some (.dT kvs)) (f : F a = none) (h0 : H0 a = none) : SR K F0 H0 F ρ σ (upd H a (.dT kvs')) := by
  have fu : Same F (upd H a (.dT kvs')) := fun c u q => by rw [upd_ne (ne_of_none q f)]; exact x.fh c u q
  refine ⟨fu, ⟨x.ent.f, fun c u q => ?_, x.ent.s⟩, x.len, x.val, fun j fs c q => ?_, x.sep⟩
  · rw [upd_ne (ne_of_none q h0)]; exact x.ent.h c u q
  · obtain ⟨a2, xs2, k1, k2, k3, k4, k5⟩ := x.own j fs c q
    refine ⟨a2, xs2, k1, ?_, k3, k4, k5⟩
    rw [upd_ne]
    · exact k2
    · intro z
      subst z
      rw [e] at k2
      cases k2
structure DI (K : PySem.W.Frag) (F0 H0 : Hp) (jn : Nat) (p : Addr) (F : Hp) (ρ : En) (σ : L2.St) (H : Hp) (acc : List (Vec × D)) : Prop where
  sr : SR K F0 H0 F ρ σ H
  at_ : σ[jn]? = some (some (.ref p))
  f : F p = none
  h0 : H0 p = none
  tb : ∃ kvs, H p = some (.dT kvs) ∧ KA K F acc kvs
  nd : (acc.map (·.1)).Nodup
  len : acc.length ≤ 2047
section
variable {K : PySem.W.Frag} {F0 H0 F H F' H' : Hp} {jn : Nat} {p : Addr} {ρ : En} {σ : L2.St} {acc : List (Vec × D)}
theorem DI.step (x : DI K F0 H0 jn p F ρ σ H acc) (s : Step F H F' H') (fh : Same F' H') : DI K F0 H0 jn p F' ρ σ H' acc := by
  obtain ⟨kvs, e, ka⟩ := x.tb
  exact ⟨x.sr.step s fh, x.at_, s.s p (ne_none_of e) x.f, x.h0, ⟨kvs, s.h _ _ e, ka.mono s.f⟩, x.nd, x.len⟩
theorem DI.setD (x : DI K F0 H0 jn p F ρ σ H acc) {v : V} {d : D} (h : Dq K F v d) {i : Nat} (ne : i ≠ jn) : DI K F0 H0 jn p F (ρ.set i (some (.d d))) (σ.set i (some v)) H acc :=
  ⟨x.sr.setD h i, by rw [List.getElem?_set_ne ne]; exact x.at_, x.f, x.h0, x.tb, x.nd, x.len⟩
end
theorem isD_inv {r : R} {k : D → Prop} (h : isD r k) : ∃ d, r = .d d ∧ k d := by
  unfold isD at h
  split at h
  · exact ⟨_, rfl, h⟩
  · exact h.elim
theorem isI_inv {r : R} {k : Int → Prop} (h : isI r k) : ∃ i, r = .d (.int i) ∧ k i := by
  unfold isI at h
  split at h
  · exact ⟨_, rfl, h⟩
  · exact h.elim
section
variable {X : Cx} {T : Tb} {G : Nat → DSp} {n : Nat} {cm : Bool} {W : WX}
theorem ckDa_inv {T : Tb} {N : List Str} {cm : Bool} {sc : Scope} {js : Nat} {es : E} {s1 : Stmt} (h : ckDa T N cm sc js es s1 = true) : ∃ b pb v p3, s1 = .Assign [.Name b pb] v p3 ∧ N[js]? = some b ∧ isLoc (sc.names.lookup b) = true ∧ plainX v = true ∧ ckE T N cm sc es v = true ∧ ∀ x y z w, v ≠ .ListComp x y z w := by
  unfold ckDa at h
  split at h
  · obtain ⟨ha, a5⟩ := ba h
    obtain ⟨ha, a4⟩ := ba ha
    obtain ⟨ha, a3⟩ := ba ha
    obtain ⟨a1, a2⟩ := ba ha
    exact ⟨_, _, _, _, rfl, of_decide_eq_true a1, a2, a3, a4, fun x y z w e => by subst e; cases a5⟩
  · cases h
theorem ckDc_inv {T : Tb} {N : List Str} {cm : Bool} {sc : Scope} {jn jp : Nat} {ex ey : E} {s2 : Stmt} (h : ckDc T N cm sc jn jp ex ey s2 = true) : ∃ c cp e1 e2 k tp sp d dp p4, s2 = .Assign [.Subscript (.Name c cp) (.Tuple [e1, e2] k tp) sp] (.Name d dp) p4 ∧
    ckV N sc jn c = true ∧ ckV N sc jp d = true ∧ plainX e1 = true ∧ plainX e2 = true ∧ ckE T N cm sc ex e1 = true ∧ ckE T N cm sc ey e2 = true := by
  unfold ckDc at h
  split at h
  · obtain ⟨hb, b6⟩ := ba h
    obtain ⟨hb, b5⟩ := ba hb
    obtain ⟨hb, b4⟩ := ba hb
    obtain ⟨hb, b3⟩ := ba hb
    obtain ⟨b1, b2⟩ := ba hb
    exact ⟨_, _, _, _, _, _, _, _, _, _, rfl, b1, b2, b3, b4, b5, b6⟩
  · cases h
theorem body_ok (g : GS T G n cm W X) {jn jp js : Nat} {es ex ey : E} {s1 s2 : Stmt} (h : ckDb T X.N cm X.env.scope jn jp js es ex ey s1 s2 = true) :
    PSs X [s1, s2] (fun D σ H => ∃ (F0 H0 F : Hp) (p : Addr) (ρ : En) (acc : List (Vec × DL.D)) (d : DL.D) (Ex : Nat → En → Prop) (k : En → List (Vec × DL.D) → Prop), DI X.K F0 H0 jn p F ρ σ H acc ∧ ρ[jp]? = some (some (.d d)) ∧ dBody G js es ex ey Ex ρ acc d k ∧
      (∀ c ρ' σ' F' H', Same F F' → SR X.K F0 H0 F' ρ' σ' H' → Ex c ρ' → W (clsV X.K T c) none σ' H') ∧ ∀ F' ρ' σ' H' acc', Same F F' → DI X.K F0 H0 jn p F' ρ' σ' H' acc' → k ρ' acc' → D.nx σ' H') := by
  unfold ckDb at h
  obtain ⟨h, n3⟩ := ba h
  obtain ⟨h, n2⟩ := ba h
  obtain ⟨h, n1⟩ := ba h
  obtain ⟨ha, hb⟩ := ba h
  have jsn : js ≠ jn := by simpa using n1
  have jsp : js ≠ jp := by simpa using n2
  obtain ⟨b, pb, v, p3, rfl, a1, a2, a3, a4, a5⟩ := ckDa_inv ha
  obtain ⟨c, cp, e1, e2, kk, tp, sp, dn, dp, p4, rfl, b1, b2, b3, b4, b5, b6⟩ := ckDc_inv hb
  obtain ⟨l1, l2⟩ := g.lc b a2
  obtain ⟨c1, c2, c3, c4⟩ := ckV_ok b1
  obtain ⟨d1, d2, d3, d4⟩ := ckV_ok b2
  have pa := ps_set (pos := p3) (pos' := pb) g.g.nd a1 l1 (sE es X W g.g _ a4).pe (noSwap a3 a5) l2
  have pk := pe_tup (pos := tp) (x1 := kk) (pa_cons (sE ex X W g.g _ b5).pe (pa_cons (sE ey X W g.g _ b6).pe pa_nil (starNo b4)) (starNo b3))
  have pb := ps_dput (pos := p4) (pos' := sp) (by have := g.g.hu; omega) (pe_var (pos := cp) c1 c2 c3 c4) pk (pe_var (pos := dp) d1 d2 d3 d4) rfl
  refine PSs.imp (pss_cons pa (pss_cons pb pss_nil)) fun D σ H q => ?_
  obtain ⟨F0, H0, F, p, ρ, acc, d, Ex, k, di, hd, w, ex', q⟩ := q
  have sx : ∀ {F1 : Hp} {ρ1 : En} {σ1 : L2.St} {H1 : Hp}, Same F F1 → SR X.K F0 H0 F1 ρ1 σ1 H1 → SX X.K T W F0 H0 F1 ρ1 σ1 H1 (fun c => Ex c ρ1) := fun s sr => ⟨sr, fun c F2 H2 z st f2 => ex' c _ _ F2 H2 (s.trans st.f) (sr.step st f2) z⟩
  unfold dBody at w
  refine (run1 (w := wE G es) (sx (Same.refl _) di.sr) w).mono fun v1 H1 ⟨F1, r, st1, f1, rv1, w1⟩ => ?_
  obtain ⟨x, rfl, w1⟩ := isD_inv w1
  have di1 := (di.step st1 f1).setD (show Dq X.K F1 v1 x from rv1) jsn
  obtain ⟨vd, ev, dv⟩ := di1.sr.val jp d (by rw [List.getElem?_set_ne jsp]; exact hd)
  refine ⟨vd, ev, _, di1.at_, ?_⟩
  refine (run1 (w := wE G ex) (sx st1.f di1.sr) w1).mono fun va H2 ⟨F2, ra, st2, f2, rva, w2⟩ => ?_
  obtain ⟨i, rfl, w2⟩ := isI_inv w2
  have di2 := di1.step st2 f2
  refine (run1 (w := wE G ey) (sx (st1.f.trans st2.f) di2.sr) w2).mono fun vb H3 ⟨F3, rb, st3, f3, rvb, w3⟩ => ?_
  obtain ⟨j, rfl, lw, w3⟩ := isI_inv w3
  have di3 := di2.step st3 f3
  have ea := rv_int rva
  have eb := rv_int rvb
  subst ea eb
  refine ⟨(show (2 : Nat) ≤ sizeLine by rw [sizeLine_eq]; omega), fun t ht => ?_⟩
  have st4 := Step.own (o := .tup [.int i, .int j]) di3.sr.fh ht
  have f4 := same_own (o := .tup [.int i, .int j]) di3.sr.fh ht
  have di4 := di3.step st4 f4
  obtain ⟨kvs, e4, ka⟩ := di4.tb
  have lk : kvs.length < sizeLine := by
    have := congrArg List.length ka.keys
    rw [List.length_map, List.length_map, List.length_map] at this
    rw [this, sizeLine_eq]
    omega
  refine ⟨p, _, rfl, DPut.t (k := keyP (i, j)) e4 upd_same lk, ?_⟩
  have dv4 : Dq X.K F3 vd d := dp_mono (st2.f.trans st3.f) dv
  refine q F3 _ _ _ _ ((st1.f.trans st2.f).trans st3.f) ⟨di4.sr.mutT e4 di4.f di4.h0, di4.at_, di4.f, di4.h0, ⟨_, upd_same, ka.put dv4 (i, j)⟩, putA_nodup di4.nd _ _, Nat.le_trans (putA_len _ _ _) (by omega)⟩ w3
theorem vals_of_KA {K : PySem.W.Frag} {F : Hp} {acc : List (Vec × DL.D)} {kvs : List (List Key × V)} (ka : KA K F acc kvs) : ∀ {L : List Vec} {vs : List V}, Paired (fun k v => valV kvs (keyP k) = some v) L vs → ∃ vals, Paired (fun k d => valA acc k = some d) L vals ∧ DqAll K F vs vals
  | _, _, .nil => ⟨[], .nil, .nil⟩
  | _, _, .cons h t => by
    obtain ⟨d, h1, h2⟩ := ka.val _ h
    obtain ⟨vals, h3, h4⟩ := vals_of_KA ka t
    exact ⟨d :: vals, .cons h1 h3, .cons h2 h4⟩
theorem ds_ok (g : GS T G n cm W X) {it : It} {jn jp js jv : Nat} {own : List (Str × Nat)} {es ex ey : E} {st : List Stmt} (h : ckDs T X.N cm X.env.scope it jn jp js jv own es ex ey st = true) : PSs X st (tS X.K T W (fun Z => wDs G it jn jp js jv es ex ey Z.ex Z.rt)) := by
  unfold ckDs at h
  split at h
  · obtain ⟨h, h7⟩ := ba h
    obtain ⟨h, h6⟩ := ba h
    obtain ⟨h, h5⟩ := ba h
    obtain ⟨h, h4⟩ := ba h
    obtain ⟨h, h3⟩ := ba h
    obtain ⟨hc, h2⟩ := ba h
    have hc := g.g.calm hc
    obtain ⟨l1, l2⟩ := g.lc _ h3
    obtain ⟨pi, nf⟩ := sI it X W g.g _ _ h5 hc
    have pn : (jp == jn) = false := by
      have := (ba h6).2
      simpa using this
    have jpn : jp ≠ jn := by simpa using pn
    refine PSs.imp (pss_cons (ps_set g.g.nd (of_decide_eq_true h2) l1 pe_dnewT rfl l2) (pss_cons (ps_for g.pa hc pi (pg_of g.lc g.g.nd hc h4) (body_ok g h6) nf) (pss_cons (ps_ret (dv_ok g.g hc h7)) pss_nil))) fun D σ H q => ?_
    obtain ⟨F0, H0, F, ρ, Z, sr, w, l⟩ := q
    obtain ⟨w1, w⟩ := w
    intro p hp
    have st0 := Step.own (o := .dT []) sr.fh hp
    have f0 := same_own (o := .dT []) sr.fh hp
    have sr1 := (sr.step st0 f0).setNone jn (some (.ref p))
    have di : DI X.K F0 H0 jn p F (ρ.set jn none) (σ.set jn (some (.ref p))) (upd H p (.dT [])) [] := ⟨sr1, by rw [List.getElem?_set_self (by rw [sr.len]; exact w1)], Same.free sr.fh hp, Same.free sr.ent.h hp, ⟨[], upd_same, .nil⟩, by simp, by simp⟩
    refine ⟨F0, H0, F, ρ.set jn none, _, _, ⟨sr1, fun c F2 H2 z s f => l.ex c _ _ F2 H2 s.f (sr1.step s f) z⟩, w, fun ds b J F1 H1 hl s1 f1 jq hz => ?_⟩
    obtain ⟨hb, hl⟩ := hl
    subst hb
    refine ⟨fun i m σ' H' => m = ds.length - i ∧ i ≤ ds.length ∧ ∃ F' ρ' acc, Same F1 F' ∧ DI X.K F0 H0 jn p F' ρ' σ' H' acc ∧ dLoop G jp js jv es ex ey Z.ex (fun acc => dFin Z.rt acc) (ds.drop i) ρ' acc, ⟨ds.length, by simp, Nat.zero_le _, F1, _, [], Same.refl _, di.step s1 f1, by simpa using hl⟩, ?_⟩
    rintro i m σ2 H2 ⟨rfl, hi2, F2, ρ2, acc, sf, di2, hw⟩
    have j2 := jq F2 H2 sf di2.sr.fh (fun z => nomatch z)
    by_cases hlt : i < ds.length
    · obtain ⟨d, hd⟩ : ∃ d, ds[i]? = some d := ⟨ds[i], List.getElem?_eq_getElem hlt⟩
      obtain ⟨go, yl⟩ := j2.1 i d hd
      have ed : ds.drop i = d :: ds.drop (i + 1) := by
        rw [List.drop_eq_getElem_cons hlt]
        rw [List.getElem?_eq_getElem hlt] at hd
        rw [Option.some.inj hd]
      rw [ed] at hw
      refine .inr ⟨go, fun σ' H' => ∃ F' ρ' acc, Same F1 F' ∧ DI X.K F0 H0 jn p F' ρ' σ' H' acc ∧ dLoop G jp js jv es ex ey Z.ex (fun acc => dFin Z.rt acc) (ds.drop (i + 1)) ρ' acc, fun σ' H' z => ⟨_, by omega, rfl, by omega, z⟩, fun x H3 y => ?_⟩
      obtain ⟨F3, s3, f3, hx⟩ := yl x H3 y
      have di3 := (di2.step s3 f3).setD hx jpn
      obtain ⟨wl, hw⟩ := hw
      refine ⟨F0, H0, F3, p, _, acc, d, _, _, di3, by rw [List.getElem?_set_self wl], hw, fun c ρ' σ' F' H' s r z => l.ex c ρ' σ' F' H' (((s1.f.trans sf).trans s3.f).trans s) r z, fun F' ρ' σ' H' acc' s dd z => ⟨F', ρ', acc', (sf.trans s3.f).trans s, dd, z⟩⟩
    · have e1 : i = ds.length := by omega
      subst e1
      rw [List.drop_length] at hw
      obtain ⟨jl2, hw⟩ := hw
      refine .inl ⟨j2.2, ?_⟩
      obtain ⟨kvs, e, ka⟩ := di2.tb
      refine ⟨by rw [di2.sr.len]; exact jl2, p, kvs, acc.map (·.1), di2.at_, e, ka.keys, by rw [List.length_map]; exact di2.len, di2.nd, fun L vs H1' p2 pm pw hvs sm hp2 => ?_⟩
      obtain ⟨vals, v1, v2⟩ := vals_of_KA ka hvs
      have st5 := same_step di2.sr.fh sm
      have st6 := Step.own (o := .lst vs) st5.2 hp2
      have f6 := same_own (o := .lst vs) st5.2 hp2
      exact l.rt (.l vals true) _ F2 _ (s1.f.trans sf) ((di2.sr.ent.trans st5.1).trans st6) f6 ⟨p2, vs, rfl, upd_same, v2, Same.free st5.2 hp2, fun _ => Same.free (di2.sr.ent.h.trans sm) hp2⟩ (hw L vals pm pw v1)
  · cases h
end
end DL
end
section
set_option maxRecDepth 100000
set_option maxHeartbeats 4000000
namespace DL
open PySem PySem.Spec PyProof.Rows L2
def hideA (F : Hp) (a : Addr) : Hp := fun b => if b = a then none else F b
theorem hideA_self {F : Hp} {a : Addr} : hideA F a a = none := if_pos rfl
theorem hideA_ne {F : Hp} {a b : Addr} (h : b ≠ a) : hideA F a b = F b := if_neg h
theorem hideA_same {F H : Hp} {a : Addr} (h : Same F H) : Same (hideA F a) H := fun b u e => by
  by_cases q : b = a
  · rw [q, hideA_self] at e; cases e
  · rw [hideA_ne q] at e; exact h b u e
theorem dq_ints_hide {K : PySem.W.Frag} {F : Hp} {a : Addr} {ys : List V} (ha : F a = some (.lst ys)) {v : V} {is : List Int} (h : Dq K F v (.tuple (is.map .int))) : Dq K (hideA F a) v (.tuple (is.map .int)) := by
  cases h with
  | tup h1 hn h3 =>
    rename_i t xs
    have hint : ∀ (is : List Int) (xs : List V), DqAll K F xs (is.map .int) → DqAll K (hideA F a) xs (is.map .int) := by
      intro is
      induction is with
      | nil => intro xs h; cases h; exact .nil
      | cons i is ih =>
        intro xs h
        cases h with
        | cons h1 h2 =>
          cases h1
          exact .cons (.int i) (ih _ h2)
    have seq : SqT K (hideA F a) t xs := by
      rcases h1 with h1 | h1
      · refine .inl ?_
        have ne : t ≠ a := fun z => by
          subst z
          rcases h1 with h1 | ⟨o, h1⟩ <;> rw [ha] at h1 <;> cases h1
        rcases h1 with h1 | ⟨o, h1⟩
        · exact .inl (by rw [hideA_ne ne]; exact h1)
        · exact .inr ⟨o, by rw [hideA_ne ne]; exact h1⟩
      · exact .inr h1
    refine .tup seq (fun z => ?_) (hint _ _ h3)
    obtain ⟨o, q, d⟩ := hn z
    refine ⟨o, ?_, d⟩
    rcases q with ⟨u, q⟩ | q
    · have ne : t ≠ a := fun z => by
        subst z
        rw [ha] at q
        cases q
      exact .inl ⟨u, by rw [hideA_ne ne]; exact q⟩
    · exact .inr q
section
variable {X : Cx} {T : Tb} {G : Nat → DSp} {n : Nat} {cm : Bool} {W : WX}
theorem lend_step {F2 H F' H' : Hp} {a : Addr} {xs : List V} (hF : F2 a = none) (s : Step (upd F2 a (.lst xs)) H F' H') : Step F2 H (hideA F' a) H' := by
  refine ⟨fun b u e => ?_, s.h, fun b h1 h2 => ?_⟩
  · have ne : b ≠ a := fun z => by rw [z, hF] at e; cases e
    rw [hideA_ne ne]
    exact s.f b u (by rw [upd_ne ne]; exact e)
  · by_cases ne : b = a
    · rw [ne]; exact hideA_self
    · rw [hideA_ne ne]
      exact s.s b h1 (by rw [upd_ne ne]; exact h2)
theorem al_call (g : GS T G n cm W X) {j f : Nat} {e : E} {p : Expr} {y z : Str} {yp zp pos : Pos} (hc : cm = true) (hf : T.fns.contains f = true) (hz : ckG X.env.scope (T.fn f) z = true) (hy : ckV X.N X.env.scope j y = true) (he : ckE T X.N cm X.env.scope e p = true) (hp : plainX p = true) :
    PE X (.Call (.Name z zp) [p, .Name y yp] [] pos) (fun σ H Q => ∃ (F0 H0 F : Hp) (ρ : En) (Ex : Nat → En → Prop) (nx : En → Prop), SR X.K F0 H0 F ρ σ H ∧ wAL G j f e Ex nx ρ ∧ (∀ c F' H', Ex c ρ → Same F F' → SR X.K F0 H0 F' ρ σ H' → W (clsV X.K T c) none σ H') ∧
      ∀ (ds : List DL.D) (b : Bool) (a : Addr) (is : List Int) (v : V) (F' H' : Hp), ρ[j]? = some (some (R.l ds b)) → σ[j]? = some (some (.ref a)) → Same F F' → SR X.K F0 H0 F' ρ σ H' → Dq X.K F' v (.tuple (is.map .int)) → ds.length < sizeLine → nx (ρ.set j (some (.l (ds ++ [.tuple (is.map .int)]) true))) → Q v H') := by
  obtain ⟨e1, g1, g2⟩ := ckG_ok hz
  subst e1
  obtain ⟨k, a, fd, pp, hk, hF, hm, hkp, hb⟩ := (g.g.fns f (by simpa using hf)).ex
  obtain ⟨n1, n2, n3, n4⟩ := ckV_ok hy
  refine PE.imp (pe_callS (E := WE W) hF ((g.g.room hc).mono hk) (Gl_of g1) hm hkp hb (fun σ => passAtk g.g.tk σ) (pa_cons (sE e X W g.g _ he).pe (pa_cons (pe_var n1 n2 n3 n4) pa_nil) (starNo hp)) g2 (starNo hp) rfl) fun σ H Q q => ?_
  obtain ⟨F0, H0, F, ρ, Ex, nx, sr, ⟨ds, b, e2, w⟩, ex, q⟩ := q
  obtain ⟨a0, xs0, o1, o2, o3, o4, o5⟩ := sr.own j ds b e2
  refine (run1 (w := wE G e) (⟨sr, fun c F2 H2 h s f => ex c F2 H2 h s.f (sr.step s f)⟩ : SX X.K T W F0 H0 F ρ σ H (fun c => Ex c ρ)) w).mono fun x H1 ⟨F1, r, s1, f1, v1, k1⟩ => ?_
  obtain ⟨F2, xd, a1, a2, a3, a4, k2, k3⟩ := frzP_ok v1 f1 k1
  have s2 := step_frz s1 a1 a4
  have sr2 := sr.step s2 a2
  obtain ⟨a', xs, p1, p2, p3, p4, p5⟩ := sr2.own j ds b e2
  rw [o1] at p1
  cases p1
  refine ⟨_, o1, ?_⟩
  have fl : Same (upd F2 a0 (.lst xs)) H1 := upd_le a2 p2
  have sl : Same F2 (upd F2 a0 (.lst xs)) := same_upd p4
  refine ⟨upd F2 a0 (.lst xs), [xd, .list ds], _, _, fl, .cons (dp_mono sl a3) (.cons (.lst (.inl upd_same) (dpa_mono sl p3)) .nil), k3, fun r v F' H' hp s3 f3 v3 => ?_, fun c F' H' hp s3 f3 => ?_⟩
  · obtain ⟨is, rfl, hn⟩ := hp
    have st := lend_step p4 s3
    have fs := hideA_same (a := a0) f3
    exact q ds b a0 is v _ H' e2 o1 (s2.f.trans st.f) (sr2.step st fs) (dq_ints_hide (s3.f _ _ upd_same) v3) k2 hn
  · have st := lend_step p4 s3
    have fs := hideA_same (a := a0) f3
    exact ex c _ H' hp (s2.f.trans st.f) (sr2.step st fs)
end
end DL
end
section
set_option maxRecDepth 100000
set_option maxHeartbeats 4000000
namespace DL
open PySem PySem.Spec PyProof.Rows L2 RZ RT
section
variable {X : Cx} {K : PySem.W.Frag} {T : Tb} {G : Nat → DSp} {W : WX} {F0 H0 F H F' H' B : Hp} {ρ ρ' : En} {σ σ' : L2.St} {Z : DE} {D : Ends} {n : Nat} {cm : Bool}
theorem PG.or {e : Expr} {t1 t2 : TG} (h1 : PG X e t1) (h2 : PG X e t2) : PG X e (fun v σ H Q => t1 v σ H Q ∨ t2 v σ H Q) :=
  ⟨fun pins s σ H v u Q I r h => h.elim (h1.run pins s σ H v u Q I r) (h2.run pins s σ H v u Q I r)⟩
theorem setAll_len : ∀ {is : List Nat} {ds : List DL.D} {ρ ρ' : En}, setAll ρ is ds = some ρ' → is.length = ds.length := by
  intro is
  induction is with
  | nil => intro ds ρ ρ' e; cases ds with
    | nil => rfl
    | cons _ _ => cases e
  | cons i is ih => intro ds ρ ρ' e; cases ds with
    | nil => cases e
    | cons d ds => rw [List.length_cons, List.length_cons, ih (ds := ds) e]
theorem swap2 {x y : Str} {px py pt pt2 : Pos} {kt k2 : Nat} {p q : Expr} {env : Env} (hk : env.scope.kind = .function) (hx : env.scope.names.lookup x = some .local) (hy : env.scope.names.lookup y = some .local) (hn : x ≠ y) (hl : (py.line == px.line) = true)
    (h1 : [p, q].all (foldedForSure 8) = false) (h2 : [p, q].all (constantsAlone 8) = false) (h3 : plainX p = true) (h4 : plainX q = true) :
    swappedStores [.Tuple [.Name x px, .Name y py] kt pt] (.Tuple [p, q] k2 pt2) env = pure (some [x, y]) := by
  have hb : env.blockKind = .function := by unfold Env.blockKind; rw [hk]; rfl
  have kx : env.kindOf x = some .local := hx
  have ky : env.kindOf y = some .local := hy
  have hs : ([p, q].any fun | .Starred .. => true | _ => false) = false := by
    have a : ∀ e, plainX e = true → (match e with | .Starred .. => true | _ => false) = false := fun e h => by
      cases e <;> first | rfl | (unfold plainX at h; cases h)
    rw [List.any_cons, List.any_cons, List.any_nil, a p h3, a q h4] <;> rfl
  have hd : ([x, y] : List Str).eraseDups.length = 2 := by
    have : ([x, y] : List Str).eraseDups = [x, y] := by
      rw [List.eraseDups_cons]
      have : (([y] : List Str).filter fun b => !b == x) = [y] := by
        rw [List.filter_cons, if_pos] <;> simp
        exact fun z => hn z.symm
      rw [this, List.eraseDups_cons]
      simp
    rw [this] <;> rfl
  unfold swappedStores
  simp only []
  rw [if_neg (show ¬ _ from fun z => by rw [hb] at z; simp at z)]
  refine Eq.trans (if_neg (fun z => absurd (hs.symm.trans z) (by decide))) ?_
  have e0 : (([Expr.Name x px, Expr.Name y py].head?.map (·.pos.line)).getD 0) = px.line := rfl
  rw [e0]
  simp only [List.filterMap_cons, kx, ky, hl, beq_self_eq_true, Bool.and_self, if_true, List.filterMap_nil]
  rw [if_neg (show ¬ _ from fun z => by rw [hd] at z; simp at z)]
  rw [if_neg (by rw [h1]; decide), if_neg (by rw [h2]; decide)]
theorem ckM_ok {N : List Str} {sc : Scope} {j : Nat} {m : Str} {o : Expr} (h : ckMeth T N sc j m o = true) : ∃ y yp apos, o = .Attribute (.Name y yp) m apos ∧ ckV N sc j y = true := by
  unfold ckMeth at h
  split at h
  · obtain ⟨h1, h2⟩ := ba h
    have e := of_decide_eq_true h1
    subst e
    exact ⟨_, _, _, rfl, h2⟩
  · cases h
theorem pe_meth1 {y m : Str} {yp apos cpos : Pos} {p : Expr} {j : Nat} {id : String} {r : V → List V → Hp → VK → Prop} {te : TE} (hv : ckV X.N X.env.scope j y = true) (slot : Slot "list" m id) (hty : typeOf (.builtin id) = pure (.type "method_descriptor")) (hm : MtR X id r) (hp : PE X p te) (pl : plainX p = true)
    (hline : (apos.endLine == cpos.line) = true) : PE X (.Call (.Attribute (.Name y yp) m apos) [p] [] cpos) (tBM X.K "list" r (tVar j) (tCons te tNil)) := by
  obtain ⟨h1, h2, h3, h4⟩ := ckV_ok hv
  refine pe_bm PySem.F.plainAttrs_list slot hty hm (pe_var h1 h2 h3 h4) (pa_cons hp pa_nil (starNo pl)) rfl ?_ hline (starNo pl) rfl
  rw [starNo pl] <;> rfl
theorem pe_meth0' {y m : Str} {yp apos cpos : Pos} {j : Nat} {id : String} {r : V → List V → Hp → VK → Prop} (hv : ckV X.N X.env.scope j y = true) (slot : Slot "list" m id) (hty : typeOf (.builtin id) = pure (.type "method_descriptor")) (hm : MtR X id r)
    (hline : (apos.endLine == cpos.line) = true) : PE X (.Call (.Attribute (.Name y yp) m apos) [] [] cpos) (tBM0 X.K "list" r (tVar j)) := by
  obtain ⟨h1, h2, h3, h4⟩ := ckV_ok hv
  exact pe_bm0 PySem.F.plainAttrs_list slot hty hm (pe_var h1 h2 h3 h4) rfl hline
end
theorem allNames {N : List Str} {sc : Scope} {ok : List Nat} : ∀ {is : List Nat} {es : List Expr}, es.length = is.length → ((es.zip is).all fun p => match p.1 with
      | .Name x _ => ckN N p.2 x && isLoc (sc.names.lookup x) && ok.contains p.2
      | _ => false) = true → es.all (fun e => match e with | .Name _ _ => true | _ => false) = true
  | [], [], _, _ => rfl
  | [], _ :: _, h, _ => by simp at h
  | _ :: _, [], h, _ => by simp at h
  | i :: is, e1 :: es, c1, c2 => by
    rw [List.zip_cons_cons, List.all_cons] at c2
    obtain ⟨d1, d2⟩ := ba c2
    rw [List.all_cons, allNames (is := is) (es := es) (by simpa using c1) d2]
    cases e1 <;> first | rfl | cases d1
theorem ps_raisek {b : Bool} {X : Cx} {W : WX} {T : Tb} {c j : Nat} {m : Str} {p p2 cp pos : Pos} (hc : X.calm = true) (tk : Tkk b X W) (xt : XcT T X c) (gg : Gl X (T.xc c)) (gd : ((T.xc c) == ("__debug__" : Str)) = false) :
    PS X (.Raise (some (.Call (.Name (T.xc c) p) [.Constant (.str m) j p2] [] cp)) none pos) (fun _ σ H => W (clsV X.K T c) none σ H) := by
  cases b with
  | true => exact L2N.ps_raise hc tk (L2N.pmk_own PySem.F.excBase_ValueError xt.exc xt.at_ xt.keep (raises_own xt.sub xt.typ) gg gd)
  | false => exact L2.ps_raise hc tk (L2.pmk_own PySem.F.excBase_ValueError xt.exc xt.at_ xt.keep (raises_own xt.sub xt.typ) gg gd)
theorem gs_tr {T : Tb} {G : Nat → DSp} {n : Nat} {cm : Bool} {W W' : WX} {X : Cx} {pn : List (Addr × Obj)} {xe : Value → Shared → Prop} (g : GS T G n cm W X) (tk' : L2.Takes (X.tr pn xe) W') (pa' : PassesOwn (model X.prog X.w) X.A X.env xe) : GS T G n cm W' (X.tr pn xe) where
  g := ⟨g.g.room, g.g.calm, g.g.hu, fun f hf => FnT.mk (g.g.fns f hf).ex, g.g.gl, g.g.bi, g.g.bo, l2_tkk tk', g.g.nd⟩
  pa := pa'
  lc := g.lc
  st := g.st
  fr := g.fr
  kd := g.kd
  xc := fun c hc => let z := g.xc c hc; ⟨z.at_, z.exc, z.keep, z.sub, z.typ⟩
  xm := g.xm
  xi := g.xi
theorem gs_suite {T : Tb} {G : Nat → DSp} {n : Nat} {cm : Bool} {W : WX} {X : Cx} {a : Addr} {pn : List (Addr × Obj)} (g : GS T G n cm W X) : GS T G n false W0 (X.suite a pn) where
  g := ⟨(fun z => nomatch z), (fun z => nomatch z), g.g.hu, fun f hf => FnT.mk (g.g.fns f hf).ex, g.g.gl, g.g.bi, g.g.bo, l2_tkk takes0, g.g.nd⟩
  pa := PassesOwn.never
  lc := g.lc
  st := g.st
  fr := g.fr
  kd := g.kd
  xc := fun c hc => let z := g.xc c hc; ⟨z.at_, z.exc, z.keep, z.sub, z.typ⟩
  xm := g.xm
  xi := g.xi
mutual
theorem sS {T : Tb} {G : Nat → DSp} {n : Nat} : ∀ (s : S) (cm : Bool) (X : Cx) (W : WX) (g : GS T G n cm W X) (st : Stmt), ckS T X.N cm X.env.scope s st = true → PS X st (tS X.K T W (wS G s))
  | .set i e, cm, X, W, g, st, h => by
    unfold ckS at h
    split at h
    · rename_i y py v pos
      obtain ⟨h, h3⟩ := ba h
      obtain ⟨h, h2⟩ := ba h
      obtain ⟨h0, h1⟩ := ba h
      have h0 : X.N[i]? = some y := of_decide_eq_true h0
      have im : ∀ D σ H, tS X.K T W (wS G (.set i e)) D σ H → tAsg (tE X.K T W (wE G e)) (gName i) D σ H := fun D σ H q => by
        obtain ⟨F0, H0, F, ρ, Z, sr, w, l⟩ := q
        unfold wS at w
        refine (runS (w := wE G e) sr l w).mono fun x H1 ⟨F1, r, s1, f1, v1, sr1, l1, k1⟩ => ?_
        obtain ⟨ρ', sr2, k2⟩ := sr1.setR (B := H) sr.ent.h (own_nn sr) v1 i k1
        exact l1.nx _ _ _ _ (Same.refl _) sr2 k2
      cases v with
      | ListComp e1 gs scope lp =>
        have h3 : (match X.env.scope.names.lookup y with
          | some .local => (py.line == lp.line) && !(scope.names.any fun (n, k) => n == y && (k == .local || k == .cell))
          | some .cell => true
          | _ => false) = true := h3
        cases hk : X.env.scope.names.lookup y with
        | none => rw [hk] at h3; cases h3
        | some kd =>
          rw [hk] at h3
          cases kd with
          | «local» =>
            obtain ⟨hl, ha⟩ := ba h3
            have ha : (scope.names.any fun (n, k) => n == y && (k == .local || k == .cell)) = false := by simpa using ha
            cases e with
            | lc elt tg it cond own =>
              cases gs with
              | nil => unfold ckE at h2; exact absurd h2 Bool.false_ne_true
              | cons g0 gs =>
                obtain ⟨t, i2, ifs, asy⟩ := g0
                cases gs with
                | cons _ _ =>
                  unfold ckE at h2
                  split at h2
                  · rename_i heq
                    cases heq
                  · cases h2
                | nil =>
                  by_cases ha0 : asy = 0
                  case neg =>
                    unfold ckE at h2
                    split at h2
                    · rename_i heq
                      cases heq
                      exact absurd rfl ha0
                    · cases h2
                  case pos =>
                    subst ha0
                    unfold ckE at h2
                    have h2 : (cm && ckIt T X.N cm X.env.scope it t i2 && blkC X.N X.env.scope scope own && ckT X.N scope (own.map (·.2)) tg t && ckE T X.N cm (relS scope X.env.scope) elt e1 && ckCond T X.N cm (relS scope X.env.scope) cond ifs) = true := h2
                    obtain ⟨h2, h6⟩ := ba h2
                    obtain ⟨h2, h5⟩ := ba h2
                    obtain ⟨h2, h4⟩ := ba h2
                    obtain ⟨h2, h3'⟩ := ba h2
                    obtain ⟨hc, h2⟩ := ba h2
                    have ok := blkOk_by h3'
                    obtain ⟨pi, nf⟩ := sI it X W g.g t i2 h2 (g.g.calm hc)
                    have hg := fun (s : Shared) (H : Hp) (C : Addr) (cl : List (Str × Addr)) (fp : List Addr) => pg_of (X := X.blk s H scope (compEnvC scope cl C X.env) fp) (sc := scope) blk_loc g.g.nd (g.g.calm hc) h4
                    have ht := fun (s : Shared) (H : Hp) (C : Addr) (cl : List (Str × Addr)) (fp : List Addr) => sCond cond (X.blk s H scope (compEnvC scope cl C X.env) fp) (gx_blk g.g) ifs h6
                    have he := fun (s : Shared) (H : Hp) (C : Addr) (cl : List (Str × Addr)) (fp : List Addr) => (sE elt (X.blk s H scope (compEnvC scope cl C X.env) fp) W0 (gx_blk g.g) e1 h5).pe
                    exact PS.imp (ps_setLc (g.g.calm hc) g.g.nd h0 hk (sw_true g.kd hk hl ha) pi ok hg ht he nf) fun D σ H q => sLc (Q := fun x H1 => gName i x σ H1 D.nx) g.g (g.g.calm hc) pi ok hg ht he nf (ckT_own h4) (pos := lp) (im D σ H q)
            | _ => unfold ckE at h2; exact absurd h2 Bool.false_ne_true
          | cell => exact PS.imp (ps_set g.g.nd h0 (.inr hk) (sE e X W g.g _ h2).pe (noSwapCell hk) (g.lc y (by rw [hk]; rfl)).2) im
          | _ => cases h3
      | _ =>
        obtain ⟨l1, l2⟩ := g.lc y h3
        exact PS.imp (ps_set g.g.nd h0 l1 (sE e X W g.g _ h2).pe (noSwap h1 fun a b c d z => by cases z) l2) im
    · cases h
  | .tup is e, cm, X, W, g, st, h => by
    unfold ckS at h
    split at h
    · rename_i es k tp v pos
      obtain ⟨h, h4⟩ := ba h
      obtain ⟨h, h3⟩ := ba h
      obtain ⟨h, h2⟩ := ba h
      obtain ⟨hc, h1⟩ := ba h
      have hc := g.g.calm hc
      have h3' := h3
      unfold ckT at h3'
      obtain ⟨c1, c2⟩ := ba h3'
      have c1 : es.length = is.length := of_decide_eq_true c1
      obtain ⟨p1, p2, p3⟩ := pgs_of g.lc g.g.nd c1 c2
      have hw : swappedStores [.Tuple es k tp] v X.env = pure none := by
        rcases Bool.or_eq_true_iff.mp h2 with z | z
        · exact noStores (by simpa using z)
        · exact noStoresC z (allNames c1 c2)
      refine PS.imp (ps_asg (sE e X W g.g _ h4).pe (PG.or (pg_tup hc p1 p2 p3) (pg_lst hc p1 p2 p3)) noSwapT hw rfl) fun D σ H q => ?_
      obtain ⟨F0, H0, F, ρ, Z, sr, w, l⟩ := q
      unfold wS at w
      refine (runS (w := wE G e) sr l w).mono fun x H1 ⟨F1, r, s1, f1, v1, sr1, l1, k1⟩ => ?_
      unfold stU at k1
      split at k1
      · rename_i ds e1
        obtain ⟨a, xs, e2, q1, q2⟩ := rv_tup v1 e1
        subst e2
        split at k1
        · rename_i ρ' e3
          refine .inl ⟨a, xs, rfl, SqT.mono f1 q1, by rw [dpa_len q2, setAll_len e3], gT_all sr1 q2 e3 sr1 fun σ' s' _ => l1.nx _ _ _ _ (Same.refl _) s' k1⟩
        · exact k1.elim
      · rename_i ds e1
        obtain ⟨a, xs, e2, q1, q2⟩ := rv_list f1 v1 e1
        subst e2
        split at k1
        · rename_i ρ' e3
          refine .inr ⟨a, xs, rfl, .inl q1, by rw [dpa_len q2, setAll_len e3], gT_all sr1 q2 e3 sr1 fun σ' s' _ => l1.nx _ _ _ _ (Same.refl _) s' k1⟩
        · exact k1.elim
      · exact k1.elim
    · cases h
  | .par2 i j a b, cm, X, W, g, st, h => by
    unfold ckS at h
    split at h
    · rename_i x px y py kt pt p q k2 pt2 pos
      obtain ⟨h, c13⟩ := ba h
      obtain ⟨h, c12⟩ := ba h
      obtain ⟨h, c11⟩ := ba h
      obtain ⟨h, c10⟩ := ba h
      obtain ⟨h, c9⟩ := ba h
      obtain ⟨h, c8⟩ := ba h
      obtain ⟨h, c7⟩ := ba h
      obtain ⟨h, c6⟩ := ba h
      obtain ⟨h, c5⟩ := ba h
      obtain ⟨h, c4⟩ := ba h
      obtain ⟨h, c3⟩ := ba h
      obtain ⟨h, c2⟩ := ba h
      obtain ⟨hc, c1⟩ := ba h
      have hij : i ≠ j := by simpa using c3
      have hx : X.env.scope.names.lookup x = some .local := by simpa using c4
      have hy : X.env.scope.names.lookup y = some .local := by simpa using c5
      have hxy : x ≠ y := by simpa using c6
      refine PS.imp (ps_par (g.g.calm hc) g.g.nd (of_decide_eq_true c1) (of_decide_eq_true c2) hij hx hy (pa_cons (sE a X W g.g _ c12).pe (pa_cons (sE b X W g.g _ c13).pe pa_nil (starNo c11)) (starNo c10))
        (swap2 g.kd hx hy hxy c7 (Bool.not_eq_true' _ ▸ c8) (Bool.not_eq_true' _ ▸ c9) c10 c11) noSwapT) fun D σ H q => ?_
      obtain ⟨F0, H0, F, ρ, Z, sr, w, l⟩ := q
      unfold wS at w
      refine (runS (w := wE G a) sr l w).mono fun u H1 ⟨F1, r, s1, f1, v1, sr1, l1, k1⟩ => ?_
      refine (runS (w := wE G b) sr1 l1 k1).mono fun v H2 ⟨F2, s, s2, f2, v2, sr2, l2, k2⟩ => ?_
      refine ⟨u, v, rfl, ?_⟩
      have k3 : wArgs [r, s] (fun ds => ∃ x y, ds = [x, y] ∧ Z.nx ((ρ.set i (some (.d x))).set j (some (.d y)))) := by
        show frzP r fun x => frzP s fun y => _
        unfold frzP at k2 ⊢
        cases e1 : frz r with
        | none => rw [e1] at k2; exact k2.elim
        | some x =>
          rw [e1] at k2
          cases e2 : frz s with
          | none => rw [e2] at k2; exact k2.elim
          | some y =>
            rw [e2] at k2
            exact ⟨x, y, rfl, k2⟩
      have rvs : RVs X.K H F2 H2 [r, s] [u, v] := ⟨u, [v], rfl, v1.step s2, v, [], rfl, v2.base s1.h, rfl⟩
      obtain ⟨F3, ds, a1, a2, a3, a4, x, y, e3, k4⟩ := args_at rvs (Same.refl _) f2 k3
      subst e3
      cases a3 with
      | cons d1 a3 =>
        cases a3 with
        | cons d2 a3 =>
          have st := step_frz (s1.trans s2) a1 a4
          have sr3 := sr.step st a2
          exact l2.nx _ _ _ _ a1 ((sr3.setD d1 i).setD d2 j) k4
    · cases h
  | .app j e, cm, X, W, g, st, h => by
    unfold ckS at h
    split at h
    · rename_i o p cp pos
      obtain ⟨h, c5⟩ := ba h
      obtain ⟨h, c4⟩ := ba h
      obtain ⟨h, c3⟩ := ba h
      obtain ⟨hc, c2⟩ := ba h
      obtain ⟨y, yp, apos, e1, hv⟩ := ckM_ok c2
      subst e1
      refine PS.imp (ps_expr (pe_meth1 hv PySem.F.slot_list_append PySem.F.type_list_append mt_append (sE e X W g.g _ c5).pe c4 c3)) fun D σ H q => ?_
      obtain ⟨F0, H0, F, ρ, Z, sr, w, l⟩ := q
      unfold wS at w
      obtain ⟨ds, b, e1, w⟩ := ownAt_inv w
      obtain ⟨a0, xs0, g1, g2, g3, g4, g5⟩ := sr.own j ds b e1
      refine ⟨_, g1, .inl ⟨rfl, xs0, .inl (.inl g2)⟩, ?_⟩
      refine (runS (w := wE G e) sr l w).mono fun x H1 ⟨F1, r, s1, f1, v1, sr1, l1, k1⟩ => ?_
      obtain ⟨F2, xd, a1, a2, a3, a4, k2, k3⟩ := frzP_ok v1 f1 k1
      have sr2 := sr.step (step_frz s1 a1 a4) a2
      obtain ⟨a', xs, p1, p2, p3, p4, p5⟩ := sr2.own j ds b e1
      rw [g1] at p1
      cases p1
      refine ⟨a0, xs, x, rfl, rfl, p2, by rw [dpa_len p3]; exact k2, ?_⟩
      exact l1.nx _ _ _ _ a1 (sr2.put e1 g1 (dpa_app p3 (.cons a3 .nil))) k3
    · cases h
  | .appL j f e, cm, X, W, g, st, h => by
    unfold ckS at h
    split at h
    · obtain ⟨h, c8⟩ := ba h
      obtain ⟨h, c7⟩ := ba h
      obtain ⟨h, c6⟩ := ba h
      obtain ⟨h, c5⟩ := ba h
      obtain ⟨h, c4⟩ := ba h
      obtain ⟨h, c3⟩ := ba h
      obtain ⟨hc, c2⟩ := ba h
      obtain ⟨y, yp, apos, e1, hv⟩ := ckM_ok c2
      subst e1
      refine PS.imp (ps_expr (pe_meth1 hv PySem.F.slot_list_append PySem.F.type_list_append mt_append (al_call g hc c4 c5 c6 c7 c8) rfl c3)) fun D σ H q => ?_
      obtain ⟨F0, H0, F, ρ, Z, sr, w, l⟩ := q
      unfold wS at w
      obtain ⟨ds, b, e1, w'⟩ := id w
      obtain ⟨a0, xs0, g1, g2, g3, g4, g5⟩ := sr.own j ds b e1
      refine ⟨_, g1, .inl ⟨rfl, xs0, .inl (.inl g2)⟩, ?_⟩
      refine ⟨F0, H0, F, ρ, Z.ex, Z.nx, sr, w, fun c F' H' z s r => l.ex c ρ σ F' H' s r z, fun ds' b' a is v F' H' e2 o1 s sr' dq lt hn => ?_⟩
      obtain ⟨a', xs, p1, p2, p3, p4, p5⟩ := sr'.own j ds' b' e2
      rw [o1] at p1
      cases p1
      rw [g1] at o1
      cases o1
      refine ⟨_, xs, v, rfl, rfl, p2, by rw [dpa_len p3]; exact lt, ?_⟩
      exact l.nx _ _ _ _ s (sr'.put e2 g1 (dpa_app p3 (.cons dq .nil))) hn
    · cases h
  | .ext j e, cm, X, W, g, st, h => by
    unfold ckS at h
    split at h
    · rename_i o p cp pos
      obtain ⟨h, c5⟩ := ba h
      obtain ⟨h, c4⟩ := ba h
      obtain ⟨h, c3⟩ := ba h
      obtain ⟨hc, c2⟩ := ba h
      obtain ⟨y, yp, apos, e1, hv⟩ := ckM_ok c2
      subst e1
      refine PS.imp (ps_expr (pe_meth1 hv PySem.F.slot_list_extend PySem.F.type_list_extend mt_extend (sE e X W g.g _ c5).pe c4 c3)) fun D σ H q => ?_
      obtain ⟨F0, H0, F, ρ, Z, sr, w, l⟩ := q
      unfold wS at w
      obtain ⟨ds, b, e1, w⟩ := ownAt_inv w
      obtain ⟨a0, xs0, g1, g2, g3, g4, g5⟩ := sr.own j ds b e1
      refine ⟨_, g1, .inl ⟨rfl, xs0, .inl (.inl g2)⟩, ?_⟩
      refine (runS (w := wE G e) sr l w).mono fun x H1 ⟨F1, r, s1, f1, v1, sr1, l1, k1⟩ => ?_
      split at k1
      · rename_i es fr
        obtain ⟨a', xs, p1, p2, p3, p4, p5⟩ := sr1.own j ds b e1
        rw [g1] at p1
        cases p1
        obtain ⟨a2, zs, q1, q2, q3, q4, q5⟩ := v1
        subst q1
        refine ⟨a0, a2, xs, zs, rfl, rfl, p2, q2, by rw [dpa_len p3, dpa_len q3]; exact k1.1, ?_⟩
        exact l1.nx _ _ _ _ (Same.refl _) (sr1.put e1 g1 (dpa_app p3 q3)) k1.2
      · exact k1.elim
    · cases h
  | .pop j, cm, X, W, g, st, h => by
    unfold ckS at h
    split at h
    · rename_i o cp pos
      obtain ⟨h, c3⟩ := ba h
      obtain ⟨hc, c2⟩ := ba h
      obtain ⟨y, yp, apos, e1, hv⟩ := ckM_ok c2
      subst e1
      refine PS.imp (ps_expr (pe_meth0' hv PySem.F.slot_list_pop PySem.F.type_list_pop mt_pop c3)) fun D σ H q => ?_
      obtain ⟨F0, H0, F, ρ, Z, sr, w, l⟩ := q
      unfold wS at w
      obtain ⟨ds, b, e1, w1, w2⟩ := ownAt_inv w
      obtain ⟨a0, xs, g1, g2, g3, g4, g5⟩ := sr.own j ds b e1
      have hl := dpa_len g3
      have hne : xs ≠ [] := fun z => by subst z; exact w1 (List.length_eq_zero_iff.mp hl.symm)
      have hp := List.length_pos_iff.mpr hne
      refine ⟨_, g1, .inl ⟨rfl, xs, .inl (.inl g2)⟩, a0, xs, xs[xs.length - 1]'(by omega), rfl, rfl, g2, List.getElem?_eq_getElem (by omega), ?_⟩
      exact l.nx _ _ _ _ (Same.refl _) (sr.put e1 g1 (dpa_dropLast g3)) w2
    · cases h
  | .appP0 j k, cm, X, W, g, st, h => by
    unfold ckS at h
    split at h
    · rename_i o o2 c i1 i2 cp2 cp pos
      obtain ⟨h, c6⟩ := ba h
      obtain ⟨h, c5⟩ := ba h
      obtain ⟨h, c4⟩ := ba h
      obtain ⟨h, c3⟩ := ba h
      obtain ⟨hc, c2⟩ := ba h
      obtain ⟨y, yp, apos, e1, hv⟩ := ckM_ok c2
      obtain ⟨y2, yp2, apos2, e2, hv2⟩ := ckM_ok c4
      have e3 := of_decide_eq_true c6
      subst e1 e2 e3
      refine PS.imp (ps_expr (pe_meth1 hv PySem.F.slot_list_append PySem.F.type_list_append mt_append (pe_meth1 hv2 PySem.F.slot_list_pop PySem.F.type_list_pop mt_popAt pe_int rfl c5) rfl c3)) fun D σ H q => ?_
      obtain ⟨F0, H0, F, ρ, Z, sr, w, l⟩ := q
      unfold wS at w
      obtain ⟨ds, b, e1, w⟩ := ownAt_inv w
      obtain ⟨es, b2, e2, w⟩ := ownAt_inv w
      split at w
      · rename_i x es
        obtain ⟨w0, w1, w2⟩ := w
        obtain ⟨a0, xs, g1, g2, g3, g4, g5⟩ := sr.own j ds b e1
        obtain ⟨a1, ys, p1, p2, p3, p4, p5⟩ := sr.own k _ b2 e2
        cases p3 with
        | cons d1 p3 =>
          rename_i y ys
          have sr2 := sr.put e2 p1 p3
          have e1' : (ρ.set k (some (R.l es true)))[j]? = some (some (R.l ds b)) := by rw [List.getElem?_set_ne (fun z => w0 z.symm)]; exact e1
          obtain ⟨a0', xs', g1', g2', g3', _, _⟩ := sr2.own j ds b e1'
          rw [g1] at g1'
          cases g1'
          refine ⟨_, g1, .inl ⟨rfl, xs, .inl (.inl g2)⟩, _, p1, .inl ⟨rfl, _, .inl (.inl p2)⟩, a1, y :: ys, 0, 0, y, rfl, rfl, p2, by decide, by decide, seqIndex_of (by decide) (by rw [List.length_cons]; omega), rfl, ?_⟩
          refine ⟨a0, xs', y, rfl, rfl, g2', by rw [dpa_len g3']; exact w1, ?_⟩
          exact l.nx _ _ _ _ (Same.refl _) (sr2.put e1' g1 (dpa_app g3' (.cons d1 .nil))) w2
      · exact w.elim
    · cases h
  | .setP0 i k, cm, X, W, g, st, h => by
    unfold ckS at h
    split at h
    · rename_i y py o2 c i1 i2 cp2 pos
      obtain ⟨h, c6⟩ := ba h
      obtain ⟨h, c5⟩ := ba h
      obtain ⟨h, c4⟩ := ba h
      obtain ⟨h, c3⟩ := ba h
      obtain ⟨hc, c2⟩ := ba h
      obtain ⟨y2, yp2, apos2, e2, hv2⟩ := ckM_ok c4
      have e3 := of_decide_eq_true c6
      subst e2 e3
      obtain ⟨l1, l2⟩ := g.lc y c3
      refine PS.imp (ps_set g.g.nd (of_decide_eq_true c2) l1 (pe_meth1 hv2 PySem.F.slot_list_pop PySem.F.type_list_pop mt_popAt pe_int rfl c5) rfl l2) fun D σ H q => ?_
      obtain ⟨F0, H0, F, ρ, Z, sr, w, l⟩ := q
      unfold wS at w
      obtain ⟨es, b2, e2, w⟩ := ownAt_inv w
      split at w
      · rename_i x es
        obtain ⟨a1, ys, p1, p2, p3, p4, p5⟩ := sr.own k _ b2 e2
        cases p3 with
        | cons d1 p3 =>
          rename_i y ys
          have sr2 := sr.put e2 p1 p3
          refine ⟨_, p1, .inl ⟨rfl, _, .inl (.inl p2)⟩, a1, y :: ys, 0, 0, y, rfl, rfl, p2, by decide, by decide, seqIndex_of (by decide) (by rw [List.length_cons]; omega), rfl, ?_⟩
          exact l.nx _ _ _ _ (Same.refl _) (sr2.setD d1 i) w
      · exact w.elim
    · cases h
  | .rev j, cm, X, W, g, st, h => by
    unfold ckS at h
    split at h
    · rename_i o cp pos
      obtain ⟨h, c3⟩ := ba h
      obtain ⟨hc, c2⟩ := ba h
      obtain ⟨y, yp, apos, e1, hv⟩ := ckM_ok c2
      subst e1
      refine PS.imp (ps_expr (pe_meth0' hv PySem.F.slot_list_reverse PySem.F.type_list_reverse mt_reverse c3)) fun D σ H q => ?_
      obtain ⟨F0, H0, F, ρ, Z, sr, w, l⟩ := q
      unfold wS at w
      obtain ⟨ds, b, e1, w2⟩ := ownAt_inv w
      obtain ⟨a0, xs, g1, g2, g3, g4, g5⟩ := sr.own j ds b e1
      refine ⟨_, g1, .inl ⟨rfl, xs, .inl (.inl g2)⟩, a0, xs, rfl, rfl, g2, ?_⟩
      exact l.nx _ _ _ _ (Same.refl _) (sr.put e1 g1 (dpa_rev g3)) w2
    · cases h
  | .sset j k e, cm, X, W, g, st, h => by
    unfold ckS at h
    split at h
    · rename_i y yp i sp v pos
      obtain ⟨h, c5⟩ := ba h
      obtain ⟨h, c4⟩ := ba h
      obtain ⟨h, c3⟩ := ba h
      obtain ⟨c1, c2⟩ := ba h
      obtain ⟨h1, h2, h3, h4⟩ := ckV_ok c1
      have hst : swappedStores [.Subscript (.Name y yp) i sp] v X.env = pure none := by cases v <;> rfl
      refine PS.imp (ps_asg (sE e X W g.g _ c4).pe (pg_sub (pe_var h1 h2 h3 h4) (sE k X W g.g _ c5).pe set_list (by intro v; cases i <;> first | rfl | (unfold plainX at c3; cases c3))) noSwapSub hst (by rfl)) fun D σ H q => ?_
      obtain ⟨F0, H0, F, ρ, Z, sr, w, l⟩ := q
      unfold wS at w
      obtain ⟨ds, b, e1, w⟩ := ownAt_inv w
      obtain ⟨a0, xs0, g1, g2, g3, g4, g5⟩ := sr.own j ds b e1
      refine (runS (w := wE G e) sr l w).mono fun x H1 ⟨F1, r, s1, f1, v1, sr1, l1, k1⟩ => ?_
      refine ⟨_, g1, ?_⟩
      refine (runS (w := wE G k) sr1 l1 k1).mono fun y H2 ⟨F2, s, s2, f2, v2, sr2, l2, k2⟩ => ?_
      obtain ⟨F3, xd, a1, a2, a3, a4, k3⟩ := frzP_ok (v1.step s2) f2 k2
      split at k3
      · rename_i i
        split at k3
        · rename_i m e3
          have ey := rv_int v2
          subst ey
          have sr3 := sr.step (step_frz (s1.trans s2) a1 a4) a2
          obtain ⟨a', xs, p1, p2, p3, p4, p5⟩ := sr3.own j ds b e1
          rw [g1] at p1
          cases p1
          refine ⟨a0, xs, i, m, rfl, rfl, p2, by rw [dpa_len p3]; exact e3, ?_⟩
          exact l2.nx _ _ _ _ a1 (sr3.put e1 g1 (dpa_set m a3 p3)) k3
        · exact k3.elim
      · exact k3.elim
    · cases h
  | .ex e, cm, X, W, g, st, h => by
    unfold ckS at h
    split at h
    · rename_i v pos
      obtain ⟨h, c3⟩ := ba h
      obtain ⟨c1, c2⟩ := ba h
      refine PS.imp (ps_expr (sE e X W g.g _ c2).pe (noSwap c1 fun a b c d z => by subst z; cases c3)) fun D σ H q => ?_
      obtain ⟨F0, H0, F, ρ, Z, sr, w, l⟩ := q
      unfold wS at w
      refine (runS (w := wE G e) sr l w).mono fun x H1 ⟨F1, r, s1, f1, v1, sr1, l1, k1⟩ => ?_
      exact l1.nx _ _ _ _ (Same.refl _) sr1 k1
    · cases h
  | .ret e, cm, X, W, g, st, h => by
    unfold ckS at h
    split at h
    · refine PS.imp (ps_ret (sE e X W g.g _ h).pe) fun D σ H q => ?_
      obtain ⟨F0, H0, F, ρ, Z, sr, w, l⟩ := q
      unfold wS at w
      refine (runS (w := wE G e) sr l w).mono fun x H1 ⟨F1, r, s1, f1, v1, sr1, l1, k1⟩ => ?_
      cases r with
      | d d => exact l1.rt _ _ _ _ (Same.refl _) sr1.ent f1 (v1.base sr.ent.h) k1
      | l ds b =>
        cases b with
        | false => exact k1.elim
        | true => exact l1.rt (.l ds true) _ _ _ (Same.refl _) sr1.ent f1 (v1.base sr.ent.h) k1
    · cases h
  | .retN, cm, X, W, g, st, h => by
    unfold ckS at h
    split at h
    · refine PS.imp ps_retN fun D σ H q => ?_
      obtain ⟨F0, H0, F, ρ, Z, sr, w, l⟩ := q
      exact l.rt (.d .none) _ _ _ (Same.refl _) sr.ent sr.fh (show Dq _ _ _ _ from Dq.non) w
    · cases h
  | .pass, cm, X, W, g, st, h => by
    unfold ckS at h
    split at h
    · refine PS.imp ps_pass fun D σ H q => ?_
      obtain ⟨F0, H0, F, ρ, Z, sr, w, l⟩ := q
      exact l.nx _ _ _ _ (Same.refl _) sr w
    · cases h
  | .brk, cm, X, W, g, st, h => by
    unfold ckS at h
    split at h
    · refine PS.imp ps_break fun D σ H q => ?_
      obtain ⟨F0, H0, F, ρ, Z, sr, w, l⟩ := q
      exact l.bk _ _ _ _ (Same.refl _) sr w
    · cases h
  | .ifs c a b, cm, X, W, g, st, h => by
    unfold ckS at h
    split at h
    · rename_i e p q pos
      obtain ⟨h, c3⟩ := ba h
      obtain ⟨c1, c2⟩ := ba h
      refine PS.imp (ps_if (sE c X W g.g _ c1).pt (sSs a cm X W g _ c2) (sSs b cm X W g _ c3)) fun D σ H q => ?_
      obtain ⟨F0, H0, F, ρ, Z, sr, w, l⟩ := q
      unfold wS at w
      refine (runS (w := wE G c) sr l w).mono fun x H1 ⟨F1, r, s1, f1, v1, sr1, l1, k1⟩ => ?_
      obtain ⟨k, e1, zz⟩ := wTru_inv k1
      subst e1
      refine ⟨k, rv_bool v1, ?_⟩
      cases k with
      | true =>
        have zz := wIf_t zz
        rw [if_pos rfl]
        exact ⟨F0, H0, F1, ρ, Z, sr1, zz, l1⟩
      | false =>
        have zz := wIf_f zz
        rw [if_neg Bool.false_ne_true]
        exact ⟨F0, H0, F1, ρ, Z, sr1, zz, l1⟩
    · cases h
  | .whl c b, cm, X, W, g, st, h => by
    unfold ckS at h
    split at h
    · rename_i e p pos
      obtain ⟨h, c2⟩ := ba h
      obtain ⟨hc, c1⟩ := ba h
      refine PS.imp (ps_while g.pa (sE c X W g.g _ c1).pt (sSs b cm X W g _ c2)) fun D σ H q => ?_
      obtain ⟨F0, H0, F, ρ, Z, sr, w, l⟩ := q
      unfold wS at w
      obtain ⟨I, ⟨m0, i0⟩, turn⟩ := w
      refine ⟨fun m σ' H' => ∃ F' ρ', Same F F' ∧ SR X.K F0 H0 F' ρ' σ' H' ∧ I m ρ', ⟨m0, F, ρ, Same.refl _, sr, i0⟩, ?_⟩
      rintro m σ1 H1 ⟨F1, ρ1, sf, sr1, i1⟩
      have t1 := turn m ρ1 i1
      have l1 := l.mono sf
      refine (runS (w := wE G c) sr1 l1 t1).mono fun x H2 ⟨F2, r, s2, f2, v2, sr2, l2, k2⟩ => ?_
      obtain ⟨k, e1, zz⟩ := wTru_inv k2
      subst e1
      refine ⟨k, rv_bool v2, ?_⟩
      cases k with
      | true =>
        have zz := wIf_t zz
        rw [if_pos rfl]
        refine ⟨fun σ' H' => ∃ m', m' < m ∧ ∃ F' ρ', Same F F' ∧ SR X.K F0 H0 F' ρ' σ' H' ∧ I m' ρ', fun σ' H' z => z, ?_⟩
        refine ⟨F0, H0, F2, ρ1, _, sr2, zz, ⟨fun ρ' σ' F' H' a b c => ?_, fun ρ' σ' F' H' a b c => l2.nx ρ' σ' F' H' a b c, l2.rt, l2.ex⟩⟩
        obtain ⟨m', hm, c⟩ := c
        exact ⟨m', hm, F', ρ', sf.trans (s2.f.trans a), b, c⟩
      | false =>
        have zz := wIf_f zz
        rw [if_neg Bool.false_ne_true]
        exact l2.nx _ _ _ _ (Same.refl _) sr2 zz
    · cases h
  | .for_ tg it b, cm, X, W, g, st, h => by
    unfold ckS at h
    split at h
    · rename_i t i p pos
      obtain ⟨h, c3⟩ := ba h
      obtain ⟨h, c2⟩ := ba h
      obtain ⟨hc, c1⟩ := ba h
      have hc := g.g.calm hc
      obtain ⟨pi, nf⟩ := sI it X W g.g t i c2 hc
      refine PS.imp (ps_for g.pa hc pi (pg_of g.lc g.g.nd hc c1) (sSs b cm X W g _ c3) nf) fun D σ H q => ?_
      obtain ⟨F0, H0, F, ρ, Z, sr, w, l⟩ := q
      unfold wS at w
      refine ⟨F0, H0, F, ρ, _, _, SX.at sr l, w, fun ds b J F1 H1 hl s1 f1 js hz => ?_⟩
      obtain ⟨hb, hl⟩ := hl
      subst hb
      have l1 := l.mono s1.f
      have sr1 := sr.step s1 f1
      refine ⟨fun i m σ' H' => m = ds.length - i ∧ i ≤ ds.length ∧ ∃ F' ρ', Same F1 F' ∧ SR X.K F0 H0 F' ρ' σ' H' ∧ forLoop (stT tg) (wSs G b) Z (ds.drop i) ρ', ⟨ds.length, by simp, Nat.zero_le _, F1, ρ, Same.refl _, sr1, by simpa using hl⟩, ?_⟩
      rintro i m σ2 H2 ⟨rfl, hi2, F2, ρ2, sf, sr2, hw⟩
      have j2 := js F2 H2 sf sr2.fh (fun z => nomatch z)
      have l2 := l1.mono sf
      by_cases hlt : i < ds.length
      · obtain ⟨d, hd⟩ : ∃ d, ds[i]? = some d := ⟨ds[i], List.getElem?_eq_getElem hlt⟩
        obtain ⟨go, yl⟩ := j2.1 i d hd
        have ed : ds.drop i = d :: ds.drop (i + 1) := by
          rw [List.drop_eq_getElem_cons hlt]
          rw [List.getElem?_eq_getElem hlt] at hd
          rw [Option.some.inj hd]
        rw [ed] at hw
        refine .inr ⟨go, fun σ' H' => ∃ F' ρ', Same F1 F' ∧ SR X.K F0 H0 F' ρ' σ' H' ∧ forLoop (stT tg) (wSs G b) Z (ds.drop (i + 1)) ρ', fun σ' H' z => ⟨_, by omega, rfl, by omega, z⟩, fun x H3 y => ?_⟩
        obtain ⟨F3, s3, f3, hx⟩ := yl x H3 y
        have sr3 := sr2.step s3 f3
        have l3 := l2.mono s3.f
        refine gT_ok sr3 hx hw fun ρ' σ' sr' hw' _ => ?_
        refine ⟨F0, H0, F3, ρ', _, sr', hw', ⟨fun ρ4 σ4 F4 H4 a b c => ⟨F4, ρ4, sf.trans (s3.f.trans a), b, c⟩, fun ρ4 σ4 F4 H4 a b c => l3.nx ρ4 σ4 F4 H4 a b c, l3.rt, l3.ex⟩⟩
      · have e1 : i = ds.length := by omega
        subst e1
        rw [List.drop_length] at hw
        exact .inl ⟨j2.2, l2.nx _ _ _ _ (Same.refl _) sr2 hw⟩
    · cases h
  | .rais c, cm, X, W, g, st, h => by
    unfold ckS at h
    split at h
    · obtain ⟨h, c2⟩ := ba h
      obtain ⟨hc, c1⟩ := ba h
      obtain ⟨e, g1, g2⟩ := ckG_ok c2
      subst e
      have xt := g.xc c (by simpa using c1)
      refine PS.imp (ps_raisek (g.g.calm hc) g.g.tk xt (Gl_of g1) g2) fun D σ H q => ?_
      obtain ⟨F0, H0, F, ρ, Z, sr, w, l⟩ := q
      unfold wS at w
      exact l.ex c ρ σ F H (Same.refl _) sr w
    · cases h
  | .try1 b c hd xs, cm, X, W, g, st, h => by
    unfold ckS at h
    split at h
    · rename_i p x np q qs pos' pos
      obtain ⟨h, c5⟩ := ba h
      obtain ⟨h, c4⟩ := ba h
      obtain ⟨h, c3⟩ := ba h
      obtain ⟨h, c2⟩ := ba h
      obtain ⟨h, c7⟩ := ba h
      obtain ⟨hc, hnn⟩ := ba h
      have hnn : T.nn = false := by simpa using hnn
      have hc' := g.g.calm hc
      obtain ⟨e, g1, g2⟩ := ckG_ok c3
      subst e
      have hcx : c ∈ T.xcs := by simpa using c2
      have xt := g.xc c hcx
      refine PS.imp (ps_try_only (c := clsV X.K T c) (tb := fun W' => tS X.K T W' (wSs G b)) (ts := fun _ _ _ => tS X.K T W0 (wSs G hd)) (Wout := W) g.st g.fr ⟨Gl_of g1, g2, .inl xt.at_⟩ (tkk_l2 hnn g.g.tk) (fun W' pn xe tk' pa' => sSs b cm (X.tr pn xe) W' (gs_tr g tk' pa') p c4)
        (fun a oe cls d pn _ _ => sSs hd false (X.suite a ((a, oe) :: pn)) W0 (gs_suite g) (q :: qs) c5)) fun D σ H q => ?_
      obtain ⟨F0, H0, F, ρ, Z, sr, w, l⟩ := q
      unfold wS at w
      refine ⟨F0, H0, F, ρ, _, sr, w, ⟨l.nx, l.bk, l.rt, fun c' ρ' σ' F' H' a b z => ?_⟩⟩
      obtain ⟨z7, z⟩ := (show c' ∈ xs ∧ wIf (isa c' c) (wSs G hd { Z with ex := fun _ _ => False } ρ') (Z.ex c' ρ') from z)
      have z1 : c' ∈ T.xcs := by simpa using List.all_eq_true.mp c7 c' z7
      refine ⟨isa c' c, g.xm c' z1 c hcx, fun hi a1 _ => ?_, fun hi => ?_⟩
      · have z := z.1 hi
        exact ⟨F0, H0, F', ρ', _, b, z, ⟨fun ρ4 σ4 F4 H4 a2 => l.nx ρ4 σ4 F4 H4 (a.trans a2), fun ρ4 σ4 F4 H4 a2 => l.bk ρ4 σ4 F4 H4 (a.trans a2), fun r v F4 H4 a2 => l.rt r v F4 H4 (a.trans a2), fun _ _ _ _ _ _ _ z => z.elim⟩⟩
      · have z := z.2 hi
        exact l.ex c' ρ' σ' F' H' a b z
    · cases h
  | .tryE b c i hd xs, cm, X, W, g, st, h => by
    unfold ckS at h
    split at h
    · rename_i p x np nm q qs pos' pos
      obtain ⟨h, c8⟩ := ba h
      obtain ⟨h, c6⟩ := ba h
      obtain ⟨h, c5⟩ := ba h
      obtain ⟨h, c4⟩ := ba h
      obtain ⟨h, c3⟩ := ba h
      obtain ⟨h, c2⟩ := ba h
      obtain ⟨h, c7⟩ := ba h
      obtain ⟨hc, hnn⟩ := ba h
      have hnn : T.nn = false := by simpa using hnn
      have hc' := g.g.calm hc
      obtain ⟨e, g1, g2⟩ := ckG_ok c3
      subst e
      have hcx : c ∈ T.xcs := by simpa using c2
      have xt := g.xc c hcx
      have hi : X.N[i]? = some nm := of_decide_eq_true c6
      have hln : X.env.kindOf nm = some .local := by
        have c9 : X.env.scope.names.lookup nm = some .local := by simpa using c8
        exact c9
      refine PS.imp (ps_try_as (c := clsV X.K T c) (i := i) (tb := fun W' => tS X.K T W' (wSs G b)) (ts := fun a cls d D σ H => ∃ c', c' ∈ T.xcs ∧ c' ∈ T.xks ∧ cls = clsV X.K T c' ∧ d = none ∧ tHd X.K i a c' hd D σ H) (Wout := W) g.st g.fr g.g.nd hi hln ⟨Gl_of g1, g2, .inl xt.at_⟩ (tkk_l2 hnn g.g.tk) (fun W' pn xe tk' pa' => sSs b cm (X.tr pn xe) W' (gs_tr g tk' pa') p c4)
        (fun a oe cls d pn hz hf => ⟨fun pins s σ H D J hh => ?_⟩)) fun D σ H q => ?_
      · obtain ⟨c', h1, h2, rfl, rfl, hh⟩ := hh
        exact (hs_at (a := a) (pn := pn) g h1 (g.xi c' h2) hz hf hd (q :: qs) c5).run pins s σ H D J hh
      obtain ⟨F0, H0, F, ρ, Z, sr, w, l⟩ := q
      unfold wS at w
      refine ⟨F0, H0, F, ρ, _, sr, w, ⟨l.nx, l.bk, l.rt, fun c' ρ' σ' F' H' a b z => ?_⟩⟩
      obtain ⟨z7, il0, z⟩ := (show c' ∈ xs ∧ i < ρ'.length ∧ wIf (isa c' c) (hsem c' hd (fun ρ2 => Z.nx (ρ2.set i none)) (ρ'.set i none)) (Z.ex c' ρ') from z)
      obtain ⟨z1, z2⟩ := ba (show (T.xcs.contains c' && T.xks.contains c') = true from List.all_eq_true.mp c7 c' z7)
      have z1 : c' ∈ T.xcs := by simpa using z1
      have z2 : c' ∈ T.xks := by simpa using z2
      refine ⟨isa c' c, g.xm c' z1 c hcx, fun hi2 a1 _ => ?_, fun hi2 => ?_⟩
      · have z := z.1 hi2
        have il : i < σ'.length := by rw [b.len]; exact il0
        refine ⟨c', z1, z2, rfl, rfl, ?_, F0, H0, F', _, _, b.setNone i (some (.ref a1)), z, fun ρ4 σ4 F4 H4 a2 b2 k2 => ?_⟩
        · rw [List.getElem?_set_self il]
        · exact l.nx _ _ _ _ (a.trans a2) (b2.unset i) k2
      · have z := z.2 hi2
        exact l.ex c' ρ' σ' F' H' a b z
    · cases h
  | .dsrt it jn jp js jv own es ex ey, cm, X, W, g, st, h => by
    unfold ckS at h
    cases h
  | .tryC b i k y1 y2 zs xs, cm, X, W, g, st, h => by
    unfold ckS at h
    cases h
  | .frz i, cm, X, W, g, st, h => by
    unfold ckS at h
    cases h
theorem sSs {T : Tb} {G : Nat → DSp} {n : Nat} : ∀ (ss : Ss) (cm : Bool) (X : Cx) (W : WX) (g : GS T G n cm W X) (sts : List Stmt), ckSs T X.N cm X.env.scope ss sts = true → PSs X sts (tS X.K T W (wSs G ss))
  | .nil, cm, X, W, g, sts, h => by
    unfold ckSs at h
    split at h
    · refine PSs.imp pss_nil fun D σ H q => ?_
      obtain ⟨F0, H0, F, ρ, Z, sr, w, l⟩ := q
      exact l.nx _ _ _ _ (Same.refl _) sr w
    · cases h
  | .cons s ss, cm, X, W, g, sts, h => by
    unfold ckSs at h
    split at h
    · rename_i i
      refine PSs.imp (sSs ss cm X W g sts h) fun D σ H q => ?_
      obtain ⟨F0, H0, F, ρ, Z, sr, w, l⟩ := q
      unfold wSs wS at w
      unfold frzS at w
      split at w
      · rename_i ds b e
        obtain ⟨F', sr', sf⟩ := sr.frz e
        exact ⟨F0, H0, F', _, Z, sr', w, l.mono sf⟩
      · exact ⟨F0, H0, F, ρ, Z, sr, w, l⟩
      · exact w.elim
    · rename_i b i k y1 y2 zs xs
      split at h
      · obtain ⟨h, h5⟩ := ba h
        obtain ⟨h, h4⟩ := ba h
        obtain ⟨h, h3⟩ := ba h
        obtain ⟨h1, h2⟩ := ba h
        obtain ⟨hnn, h1⟩ := ba h1
        unfold ckB at h4
        refine PSs.imp (tc_ok g (fun W' pn xe tk' pa' => sSs b cm (X.tr pn xe) W' (gs_tr g tk' pa') _ h4) h1 h2 h3 h5) fun D σ H q => ?_
        obtain ⟨F0, H0, F, ρ, Z, sr, w, l⟩ := q
        unfold wSs at w
        exact ⟨F0, H0, F, ρ, _, sr, w, ⟨fun ρ' σ' F' H' a b c => l.nx ρ' σ' F' H' a b (by unfold wSs at c; exact c), l.bk, l.rt, l.ex⟩⟩
      · cases h
    · split at h
      · refine PSs.imp (ds_ok g h) fun D σ H q => ?_
        obtain ⟨F0, H0, F, ρ, Z, sr, w, l⟩ := q
        unfold wSs wS at w
        exact ⟨F0, H0, F, ρ, _, sr, w, ⟨fun ρ' σ' F' H' a b c => l.nx ρ' σ' F' H' a b (by unfold wSs at c; exact c), l.bk, l.rt, l.ex⟩⟩
      · cases h
    · split at h
      · rename_i p ps
        obtain ⟨h1, h2⟩ := ba h
        refine PSs.imp (pss_cons (sS s cm X W g p h1) (sSs ss cm X W g ps h2)) fun D σ H q => ?_
        obtain ⟨F0, H0, F, ρ, Z, sr, w, l⟩ := q
        unfold wSs at w
        refine ⟨F0, H0, F, ρ, _, sr, w, ⟨fun ρ' σ' F' H' a b c => ?_, l.bk, l.rt, l.ex⟩⟩
        exact ⟨F0, H0, F', ρ', Z, b, c, l.mono a⟩
      · cases h
end
end DL
end
section
set_option maxRecDepth 100000
set_option maxHeartbeats 4000000
namespace DL
open PySem PySem.Spec PyProof.Rows L2
structure Wd (P : Program) (w : World) (K : PySem.W.Frag) (mg : Str → Option Value) (T : Tb) : Prop where
  gl : ∀ k ∈ T.gls, ∃ u v, mg (T.gl k) = some u ∧ RelV v u ∧ Dq K (fun _ => none) v (glD k)
  bi : ∀ b : Bi, mg (bname b) = none
  bo : ∀ x ∈ ["isinstance", "range", "enumerate", "zip", "reversed", "int", "bool", "str", "tuple", "list", "sorted", "set"], mg (Str.ofString x) = none
  xa : ∀ c ∈ T.xcs, mg (T.xc c) = some (clsV K T c)
  xe : ∀ c ∈ T.xcs, PySem.W.excIn K (He.ga K (T.xc c)) He.veBase "ValueError.__new__" = true ∧ PySem.W.keepIn K (clsV K T c) = true ∧ PySem.W.subIn K (clsV K T c) (.type "BaseException") = some true ∧ PySem.W.typeIn K (clsV K T c) = some (.type "type")
  xm : ∀ c ∈ T.xcs, ∀ d ∈ T.xcs, PySem.W.exmOne K (clsV K T c) (clsV K T d) = some (isa c d)
  xi : ∀ c ∈ T.xks, XcI K mg T c
def FnPk (b : Bool) (P : Program) (w : World) (K : PySem.W.Frag) (mg : Str → Option Value) (base : Heap) (T : Tb) (G : Nat → DSp) (k f : Nat) : Prop :=
  ∃ (a : Addr) (fd : FuncData) (ps : List Str), FnOk P w K mg base (CXk b P w) k a fd ps (lift K T (G f)) ∧ mg (T.fn f) = some (.ref a) ∧ PySem.W.keepIn K (.ref a) = true ∧ Binds K fd ps []
abbrev FnP := FnPk false
abbrev FnN := FnPk true
theorem FnPk.to {P : Program} {w : World} {K : PySem.W.Frag} {mg : Str → Option Value} {base : Heap} {T : Tb} {G : Nat → DSp} {k f : Nat} (h : FnN P w K mg base T G k f) : FnP P w K mg base T G k f := by
  obtain ⟨a, fd, ps, F, r⟩ := h
  exact ⟨a, fd, ps, fn_n F, r⟩
def dstart (N : List Str) (ds : List D) : En := ds.map (fun d => some (R.d d)) ++ List.replicate (N.length - ds.length) none
def endOf (Q : R → Prop) (X : Nat → Prop) : DE := ⟨fun _ => Q (.d .none), Q, fun _ => False, fun c _ => X c⟩
section
variable {P : Program} {w : World} {K : PySem.W.Frag} {mg : Str → Option Value} {base : Heap} {T : Tb} {G : Nat → DSp}
theorem sr_start {N : List Str} {F H : Hp} {vs : List V} {ds : List DL.D} (fh : Same F H) (h : DqAll K F vs ds) : SR K F H F (dstart N ds) (L2.start N vs) H where
  fh := fh
  ent := Step.refl
  len := by
    unfold L2.start dstart
    rw [List.length_append, List.length_append, List.length_map, List.length_map, List.length_replicate, List.length_replicate, dpa_len h]
  val := fun i x e => by
    unfold dstart at e
    unfold L2.start
    by_cases hi : i < ds.length
    · rw [List.getElem?_append_left (by rw [List.length_map]; exact hi), List.getElem?_map] at e
      cases q : ds[i]? with
      | none => rw [q] at e; cases e
      | some d =>
        rw [q] at e
        cases e
        obtain ⟨v, h1, h2⟩ := dpa_get h q
        refine ⟨v, ?_, h2⟩
        rw [List.getElem?_append_left (by rw [List.length_map, dpa_len h]; exact hi), List.getElem?_map, h1]
        rfl
    · rw [List.getElem?_append_right (by rw [List.length_map]; omega), List.getElem?_replicate] at e
      split at e <;> cases e
  own := fun i es b e => by
    exfalso
    unfold dstart at e
    by_cases hi : i < ds.length
    · rw [List.getElem?_append_left (by rw [List.length_map]; exact hi), List.getElem?_map] at e
      cases q : ds[i]? with
      | none => rw [q] at e; cases e
      | some d => rw [q] at e; cases e
    · rw [List.getElem?_append_right (by rw [List.length_map]; omega), List.getElem?_replicate] at e
      split at e <;> cases e
  sep := fun i j es fs b c a _ e => by
    exfalso
    unfold dstart at e
    by_cases hi : i < ds.length
    · rw [List.getElem?_append_left (by rw [List.length_map]; exact hi), List.getElem?_map] at e
      cases q : ds[i]? with
      | none => rw [q] at e; cases e
      | some d => rw [q] at e; cases e
    · rw [List.getElem?_append_right (by rw [List.length_map]; omega), List.getElem?_replicate] at e
      split at e <;> cases e
theorem def_okF {b : Bool} {k f : Nat} {a : Addr} {fd : FuncData} {qual : Str} {params : Arguments} {body : List Stmt} {scope : Scope} {N ps : List Str} {cal : List Nat} {mini : Ss} (wd : Wd P w K mg T)
    {x : Str} (F : FunD K x qual params body scope [] [] a fd) (S : FnScope N ps scope)
    (hc : ∀ g ∈ cal, FnPk b P w K mg base T G k g) (ck : ckSs { T with fns := cal, nn := b } N true scope mini body = true)
    (hw : ∀ ds Q X, G f ds Q X → ds.length = ps.length ∧ wSs G mini (endOf Q X) (dstart N ds)) : FnOk P w K mg base (CXk b P w) (k + 1) a fd ps (lift K T (G f)) := by
  refine F.ok S (fun vs H Q E h => ?_) (fun cdv A outer s H vs Q E hr h => ?_)
  · obtain ⟨F0, ds, P1, PE, fh, hd, hg, _⟩ := h
    rw [dpa_len hd]
    exact (hw ds P1 PE hg).1
  · obtain ⟨F0, ds, P1, PE, fh, hd, hg, post, pex⟩ := h
    have tk : Tkk b (cxOf (CXk b P w) P w K mg base N qual scope a cdv A outer s H E) (fun cls d _ H => E cls d H) := by
      cases b with
      | true => exact L2N.takes_of rfl rfl rfl rfl
      | false => exact L2.takes_of rfl rfl rfl rfl
    have gs : GS { T with fns := cal, nn := b } G k true (fun cls d _ H => E cls d H) (cxOf (CXk b P w) P w K mg base N qual scope a cdv A outer s H E) := by
      refine ⟨⟨fun _ => hr, fun _ => rfl, ?_, fun g hg => ?_, wd.gl, wd.bi, wd.bo, tk, S.nd⟩, passes_of rfl, fun x hx => ?_, rfl, rfl, S.kind, fun c hc => ?_, wd.xm, fun c hc => let z := wd.xi c hc; ⟨z.ex, z.ve, z.xv⟩⟩
      · have := hr.un
        show _ + 200 < _
        have e : (cxOf (CXk b P w) P w K mg base N qual scope a cdv A outer s H E).A = A.deeper (envOfC qual scope s.heap.objs.size a cdv) := rfl
        rw [e]
        omega
      · obtain ⟨b, fd2, ps2, h1, h2, h3, h4⟩ := hc g hg
        exact ⟨k, b, fd2, ps2, Nat.le_refl _, h1, h2, h3, h4⟩
      · cases q : scope.names.lookup x with
        | none =>
          have hx : isLoc (scope.names.lookup x) = true := hx
          rw [q] at hx
          cases hx
        | some kd =>
          have hx : isLoc (scope.names.lookup x) = true := hx
          rw [q] at hx
          cases kd with
          | «local» => exact ⟨.inl q, .inl rfl⟩
          | cell => exact ⟨.inr q, .inl rfl⟩
          | _ => cases hx
      · obtain ⟨h1, h2, h3, h4⟩ := wd.xe c hc
        exact ⟨wd.xa c hc, h1, h2, h3, h4⟩
    refine ⟨_, sSs mini true _ _ gs body ck, F0, H, F0, dstart N ds, endOf P1 PE, sr_start fh hd, (hw ds P1 PE hg).2, ?_⟩
    refine ⟨fun ρ' σ' F' H' s1 sr h => ?_, fun _ _ _ _ _ _ h => h.elim, fun r v F' H' s1 st f1 rv h => post r v F' H' h st f1 rv, fun c ρ' σ' F' H' s1 sr h => pex c F' H' h sr.ent sr.fh⟩
    exact post (.d .none) .non F' H' h sr.ent sr.fh (show Dq _ _ _ _ from Dq.non)
theorem def_okk {b : Bool} {k f : Nat} {a : Addr} {fd : FuncData} {qual : Str} {params : Arguments} {body : List Stmt} {scope : Scope} {N ps : List Str} {cal : List Nat} {mini : Ss} (wd : Wd P w K mg T)
    (F : FunD K (T.fn f) qual params body scope [] [] a fd) (hm : mg (T.fn f) = some (.ref a)) (S : FnScope N ps scope) (hb : Binds K fd ps [])
    (hc : ∀ g ∈ cal, FnPk b P w K mg base T G k g) (ck : ckSs { T with fns := cal, nn := b } N true scope mini body = true)
    (hw : ∀ ds Q X, G f ds Q X → ds.length = ps.length ∧ wSs G mini (endOf Q X) (dstart N ds)) : FnPk b P w K mg base T G (k + 1) f :=
  ⟨a, fd, ps, def_okF wd F S hc ck hw, hm, F.kp, hb⟩
theorem def_ok {k f : Nat} {a : Addr} {fd : FuncData} {qual : Str} {params : Arguments} {body : List Stmt} {scope : Scope} {N ps : List Str} {cal : List Nat} {mini : Ss} (wd : Wd P w K mg T)
    (F : FunD K (T.fn f) qual params body scope [] [] a fd) (hm : mg (T.fn f) = some (.ref a)) (S : FnScope N ps scope) (hb : Binds K fd ps [])
    (hc : ∀ g ∈ cal, FnP P w K mg base T G k g) (ck : ckSs { T with fns := cal, nn := false } N true scope mini body = true)
    (hw : ∀ ds Q X, G f ds Q X → ds.length = ps.length ∧ wSs G mini (endOf Q X) (dstart N ds)) : FnP P w K mg base T G (k + 1) f := def_okk (b := false) wd F hm S hb hc ck hw
theorem def_okN {k f : Nat} {a : Addr} {fd : FuncData} {qual : Str} {params : Arguments} {body : List Stmt} {scope : Scope} {N ps : List Str} {cal : List Nat} {mini : Ss} (wd : Wd P w K mg T)
    (F : FunD K (T.fn f) qual params body scope [] [] a fd) (hm : mg (T.fn f) = some (.ref a)) (S : FnScope N ps scope) (hb : Binds K fd ps [])
    (hc : ∀ g ∈ cal, FnN P w K mg base T G k g) (ck : ckSs { T with fns := cal, nn := true } N true scope mini body = true)
    (hw : ∀ ds Q X, G f ds Q X → ds.length = ps.length ∧ wSs G mini (endOf Q X) (dstart N ds)) : FnN P w K mg base T G (k + 1) f := def_okk (b := true) wd F hm S hb hc ck hw
end
def noLst (K : PySem.W.Frag) : Bool := K.all fun p => match p.2.cls with
  | .type c => !(decide (c = "list"))
  | _ => true
theorem lk_mem {a : Addr} {o : Obj} : ∀ {K : List (Addr × Obj)}, K.lookup a = some o → (a, o) ∈ K
  | [], h => by cases h
  | (b, u) :: K, h => by
    rw [List.lookup_cons] at h
    split at h
    · rename_i e
      cases h
      rw [eq_of_beq e]
      exact List.mem_cons_self
    · exact List.mem_cons_of_mem _ (lk_mem h)
theorem noLst_ok {K : PySem.W.Frag} (h : noLst K = true) {a : Addr} {o : Obj} (e : K.lookup a = some o) : o.cls ≠ .type "list" := by
  have hm := lk_mem e
  have := List.all_eq_true.mp h _ hm
  intro z
  rw [z] at this
  cases this
def xiB (K : PySem.W.Frag) (x : Str) : Bool := excB K (He.ga K x) && decide (PySem.W.kitOne K (.ref (He.ga K x)) (.type "ValueError") = some true)
def tbOk (K : PySem.W.Frag) (p : Str × List Int) : Bool := if p.2 == [-77] then xiB K p.1 else He.tupB K p.1 (p.2.map He.Dv.int)
theorem tbOk_tup {K : PySem.W.Frag} {p : Str × List Int} (t : tbOk K p = true) (h : (p.2 == [-77]) = false) : He.tupB K p.1 (p.2.map He.Dv.int) = true := by
  unfold tbOk at t
  rw [h] at t
  exact t
theorem xi_ok {K : PySem.W.Frag} {mg : Str → Option Value} {h : Heap} (X : K.In h) (G : h.Ns mainGlobals mg) {T : Tb} {c : Nat} {x : Str} (e : T.xc c = x) (f : (He.Fa.free "ValueError").ok K = true) (t : tbOk K (x, [-77]) = true) : XcI K mg T c := by
  subst e
  have t : xiB K (T.xc c) = true := t
  unfold xiB at t
  obtain ⟨t1, t2⟩ := ba t
  exact ⟨excB_ok t1, of_decide_eq_true t2, He.free_ok X G f⟩
def obsE (fa : List He.Fa) (fn : List He.DefD) (tb : List (Str × List Int)) (K : PySem.W.Frag) : He.AlD × Bool := (He.obsD fa fn K, noLst K && tb.all fun p => tbOk K p)
def valE (fn : List He.DefD) : He.AlD × Bool := (He.valD fn, true)
structure SaysE (fa : List He.Fa) (fn : List He.DefD) (tb : List (Str × List Int)) (K : PySem.W.Frag) : Prop where
  d : He.SaysD fa fn K
  nl : noLst K = true
  tb : ∀ p ∈ tb, tbOk K p = true
theorem saysE_of {fa : List He.Fa} {fn : List He.DefD} {tb : List (Str × List Int)} {K : PySem.W.Frag} (e : obsE fa fn tb K = valE fn) : SaysE fa fn tb K := by
  have e1 := congrArg (fun z : He.AlD × Bool => z.1) e
  have e2 : (noLst K && tb.all fun p => tbOk K p) = true := congrArg (fun z : He.AlD × Bool => z.2) e
  obtain ⟨h1, h2⟩ := ba e2
  exact ⟨e1, h1, fun p hp => List.all_eq_true.mp h2 p hp⟩
def obsEG (n : Nat) (fa : List He.Fa) (fn : List He.DefD) (tb : List (Str × List Int)) (g : Addr → Option Obj) : He.AlD × Bool := obsE fa fn tb (He.frG g (He.asD g n))
def hookE (n : Nat) (fa : List He.Fa) (fn : List He.DefD) (tb : List (Str × List Int)) : PySem.W.Hook where
  α := He.AlD × Bool
  obs := fun s => obsEG n fa fn tb s.heap.get?
  val := fun _ => valE fn
  says := fun _ h => ∃ K : PySem.W.Frag, K.In h ∧ SaysE fa fn tb K
  of := fun _ _ e => ⟨_, He.frG_in, saysE_of e⟩
  keeps := fun _ _ _ ⟨K, hK, c⟩ k => ⟨K, PySem.W.Frag.In.keeps hK k, c⟩
theorem obsEG_eq {n : Nat} {fa : List He.Fa} {fn : List He.DefD} {tb : List (Str × List Int)} {g : Addr → Option Obj} {s : Shared} (h : ∀ a, g a = s.heap.get? a) : obsEG n fa fn tb g = (hookE n fa fn tb).obs s := by
  have e : g = s.heap.get? := funext h
  rw [e] <;> rfl
def LawSp (G : Nat → DSp) (f : Nat) : Prop := ∀ ns : List Int, ns.length ≤ 63 → ∀ (Q : R → Prop) (X : Nat → Prop), Q (.d (.bool true)) → G f [.list (ns.map .int)] Q X
def spLaw (K : PySem.W.Frag) : Sp := fun vs H Q _ => ∃ (a : Addr) (ns : List Int), vs = [.ref a] ∧ SqL K H a (ns.map V.int) ∧ ns.length ≤ 63 ∧ ∀ H', Q (.bl true) H'
theorem law_end {P : Program} {w : World} {K : PySem.W.Frag} {mg : Str → Option Value} {base : Heap} {T : Tb} {G : Nat → DSp} {k f : Nat} (nl : noLst K = true) (hl : LawSp G f) {a : Addr} {fd : FuncData} {ps : List Str}
    (F : FnOk P w K mg base (L2.CX P w) k a fd ps (lift K T (G f))) : FnOk P w K mg base (L2.CX P w) k a fd ps (spLaw K) := by
  refine F.imp fun vs H Q E h => ?_
  obtain ⟨b, ns, e, hq, hn, post⟩ := h
  subst e
  have rd : Rd H b (.lst (ns.map V.int)) := by
    rcases hq with h | ⟨o, its, n, h1, h2, _⟩
    · exact h
    · exact absurd h2 (noLst_ok nl h1)
  refine ⟨H, [.list (ns.map .int)], fun r => r = .d (.bool true), fun _ => False, Same.refl _, .cons (.lst rd (dpa_of_ints ns)) .nil, hl ns hn _ _ rfl, fun r v F' H' h _ _ rv => ?_, fun _ _ _ h => h.elim⟩
  subst h
  rw [rv_bool rv]
  exact post H'
end DL
namespace DL
open PySem PySem.Spec PyProof.Rows L2
theorem all_nil {α : Type} {P : α → Prop} : ∀ c ∈ ([] : List α), P c := fun _ h => nomatch h
theorem all_cons {α : Type} {P : α → Prop} {a : α} {l : List α} (h : P a) (t : ∀ c ∈ l, P c) : ∀ c ∈ a :: l, P c := fun c hc => by
  rcases List.mem_cons.mp hc with e | e
  · rw [e]; exact h
  · exact t c e
theorem FnP.mono {P : Program} {w : World} {K : PySem.W.Frag} {mg : Str → Option Value} {base : Heap} {T : Tb} {G : Nat → DSp} {j k f : Nat} (h : FnP P w K mg base T G j f) (l : j ≤ k) : FnP P w K mg base T G k f :=
  let ⟨a, fd, ps, h1, h2, h3, h4⟩ := h
  ⟨a, fd, ps, h1.mono l, h2, h3, h4⟩
theorem gl_tup {K : PySem.W.Frag} {mg : Str → Option Value} {h : Heap} (X : K.In h) (G : h.Ns mainGlobals mg) {x : Str} {is : List Int} (c : (He.Fa.glo x).ok K = true) (t : He.tupB K x (is.map He.Dv.int) = true) :
    ∃ u v, mg x = some u ∧ RelV v u ∧ Dq K (fun _ => none) v (.tuple (is.map .int)) := by
  refine ⟨_, .ref (He.ga K x), He.glo_ok X G c, rfl, .tup (xs := is.map V.int) ?_ (fun z => by cases is <;> cases z) (dpa_of_ints is)⟩
  have := He.tupB_ok t (fun _ => none)
  rw [List.map_map] at this
  exact this
end DL
namespace DL
open PySem PySem.Spec PyProof.Rows L2
def LawAt (l : PySem.W.OpenLaw) (YP : World → Heap → Prop) (nm x : Str) (k : Nat) : Prop := ∀ w mg fa h, YP w h → h.Ns mainGlobals mg → mg nm = some (Value.ref fa) → ∃ K fd,
  PySem.W.Frag.In K h ∧ (∀ s u, BindsTo s fd ⟨[u], []⟩ [(x, u)]) ∧ ∀ base, PySem.W.Frag.In K base → base.Ns mainGlobals mg → FnOk l.prog w K mg base (L2.CX l.prog w) k fa fd [x] (spLaw K)
theorem cx_end {P : Program} (w : World) (H : Hp) (s : Shared) (e : Value) (s' : Shared) (h : L2.CX P w [] H s (fun _ _ _ => False) e s') : False := by
  obtain ⟨_, _, _, _, _, _, _, _, _, _, _, _, z⟩ := h
  exact z
theorem walk_w {l : PySem.W.OpenLaw} {k : Nat} {q : Program} {loose : List Str} {XP : (Str → Option Value) → Heap → Prop} {YP : World → Heap → Prop} {d : DefRec} {x : Str} (hn : l.most = some 63) (hd : d.params.defaults = []) (hr : Room k callerA) (F : LawAt l YP d.name x k) :
    PySem.W.WalkO q loose XP YP l.row.toRowW d [] (fun f vs => PySem.call f vs) :=
  Att.attach_call hn hd fun w s0 s1 mg mb fa o pm cd doc a vs ns G Y _ _ _ em _ hi hl hg =>
    let ⟨_, _, hK, hb, hF⟩ := F w mg fa _ Y G.T.g em
    law_call hK G.T.g G.T.b G.T.builtins G.T.nolimit hg (by assumption) hi (Nat.le_trans hl (by decide)) hr hF hb (fun H _ hS => ⟨a, ns, rfl, hS, hl, fun _ => rfl⟩) fun H e s' => cx_end w H s1 e s'
end DL
end
section
set_option maxRecDepth 100000
set_option maxHeartbeats 4000000
namespace DL
open PySem L2
def dst (n : Nat) (ds : List D) : En := ds.map (fun d => some (R.d d)) ++ List.replicate (n - ds.length) none
def FnW (G : Nat → DSp) (n np : Nat) (m : Ss) (sp : DSp) : Prop := ∀ ds Q X, sp ds Q X → ds.length = np ∧ wSs G m (endOf Q X) (dst n ds)
theorem gC {G : Nat → DSp} {f : Nat} {sp : DSp} {ds : List D} {Q : R → Prop} {X : Nat → Prop} (h : G f = sp) (p : sp ds Q X) : G f ds Q X := by rw [h]; exact p
def Bd (n : Nat) (x : Int) : Prop := x.natAbs < 2 ^ n
instance {n : Nat} {x : Int} : Decidable (Bd n x) := inferInstanceAs (Decidable (_ < _))
theorem Bd.mono {m n : Nat} {x : Int} (h : Bd m x) (l : m ≤ n) : Bd n x := Nat.lt_of_lt_of_le h (Nat.pow_le_pow_right (by decide) l)
theorem Bd.le {n : Nat} {x y : Int} (h : Bd n y) (l : x.natAbs ≤ y.natAbs) : Bd n x := Nat.lt_of_le_of_lt l h
theorem Bd.mul {m n : Nat} {x y : Int} (h : Bd m x) (g : Bd n y) : Bd (m + n) (x * y) := wide_lt h g
theorem Bd.add {m n : Nat} {x y : Int} (h : Bd m x) (g : Bd n y) : Bd (max m n + 1) (x + y) := by
  have h1 := h.mono (Nat.le_max_left m n)
  have h2 := g.mono (Nat.le_max_right m n)
  unfold Bd at *
  rw [Nat.pow_succ]
  omega
theorem Bd.sub {m n : Nat} {x y : Int} (h : Bd m x) (g : Bd n y) : Bd (max m n + 1) (x - y) := by
  have h1 := h.mono (Nat.le_max_left m n)
  have h2 := g.mono (Nat.le_max_right m n)
  unfold Bd at *
  rw [Nat.pow_succ]
  omega
theorem Bd.neg {m : Nat} {x : Int} (h : Bd m x) : Bd m (-x) := by unfold Bd at *; omega
theorem mul_ok {m n : Nat} {x y : Int} (h : Bd m x) (g : Bd n y) (l : m + n ≤ 999990) : MulOk x y :=
  (wide_mul (h.mono (Nat.le_succ m)) (g.mono (Nat.le_succ n)) (Nat.succ_pos _) (Nat.succ_pos _) (by omega)).ok
theorem div_ok {n : Nat} {x y : Int} (g : Bd n y) (l : n ≤ 8999) : DivOk x y :=
  PyProof.noPylong_of_log2 (Nat.lt_of_lt_of_le (PySem.Flt.log2_lt_of (Nat.succ_pos n) (g.mono (Nat.le_succ n))) (by omega))
theorem mul_l {x y : Int} (h : -(2 ^ 64) < x) (g : x < 2 ^ 64) : MulOk x y := CMul.ok (.inl ⟨h, g⟩)
theorem mul_r {x y : Int} (h : -(2 ^ 64) < y) (g : y < 2 ^ 64) : MulOk x y := CMul.ok (.inr ⟨h, g⟩)
theorem div_lit {x y : Int} (h : y.natAbs < 2 ^ 1000) : DivOk x y := div_ok (n := 1000) h (by decide)
theorem bd_of {n : Nat} {x : Int} (h : -(2 ^ n : Nat) < x) (g : x < (2 ^ n : Nat)) : Bd n x := by
  unfold Bd
  omega
theorem bd_self (x : Int) : Bd (x.natAbs.log2 + 1) x := Nat.lt_log2_self
theorem wIf_tt {a b : Prop} (h : a) : wIf true a b := ⟨fun _ => h, fun z => nomatch z⟩
theorem wIf_ff {a b : Prop} (h : b) : wIf false a b := ⟨(fun z => nomatch z), fun _ => h⟩
theorem wIf_not {k : Bool} {a b : Prop} (h : wIf k b a) : wIf (!k) a b := by
  cases k
  · exact ⟨fun _ => h.2 rfl, fun z => nomatch z⟩
  · exact ⟨(fun z => nomatch z), fun _ => h.1 rfl⟩
theorem bd40 {x : Int} (h : -1099511627776 < x) (g : x < 1099511627776) : Bd 40 x := bd_of h g
theorem bd130 {x : Int} (h : -(2 ^ 130) < x) (g : x < 2 ^ 130) : Bd 130 x := bd_of h g
theorem bd210 {x : Int} (h : -(2 ^ 210) < x) (g : x < 2 ^ 210) : Bd 210 x := bd_of h g
theorem isi_ok {d : D} {t : String} {b : Bool} (h : kitB (tyD d) t = some b) : isiOk d t := fun z => by rw [h] at z; cases z
theorem forLoop_ind {st : D → En → (En → Prop) → Prop} {body : DE → En → Prop} {E : DE} (P : List D → En → Prop) (h0 : ∀ ρ, P [] ρ → E.nx ρ)
    (h1 : ∀ d ds ρ, P (d :: ds) ρ → ∀ nx : En → Prop, (∀ ρ', P ds ρ' → nx ρ') → st d ρ fun ρ2 => body { E with nx := nx, bk := E.nx } ρ2) :
    ∀ ds ρ, P ds ρ → forLoop st body E ds ρ := by
  intro ds
  induction ds with
  | nil => exact h0
  | cons d ds ih => exact fun ρ h => h1 d ds ρ h _ ih
theorem lc_ind {st : D → En → (En → Prop) → Prop} {tt : En → (Bool → Prop) → Prop} {el : En → (R → Prop) → Prop} {ρ : En} {Q : R → Prop} (P : List D → List D → Prop) (h0 : ∀ acc, P [] acc → Q (.l acc true))
    (h1 : ∀ d ds acc, P (d :: ds) acc → ∀ k : List D → Prop, (∀ acc', P ds acc' → k acc') → st d ρ fun ρ2 => tt ρ2 fun b => wIf b (el ρ2 fun r => frzP r fun y => k (acc ++ [y])) (k acc)) :
    ∀ ds acc, P ds acc → lcLoop st tt el ρ ds acc Q := by
  intro ds
  induction ds with
  | nil => exact h0
  | cons d ds ih => exact fun acc h => h1 d ds acc h _ ih
theorem lc_map {st : D → En → (En → Prop) → Prop} {tt : En → (Bool → Prop) → Prop} {el : En → (R → Prop) → Prop} {ρ : En} {Q : R → Prop} {α : Type} (f g : α → D) (xs : List α)
    (h1 : ∀ x ∈ xs, ∀ k : D → Prop, k (g x) → st (f x) ρ fun ρ2 => tt ρ2 fun b => b = true ∧ (el ρ2 fun r => frzP r k)) (mt : ∀ ρ2 (p q : Bool → Prop), (∀ b, p b → q b) → tt ρ2 p → tt ρ2 q)
    (ms : ∀ d (p q : En → Prop), (∀ ρ, p ρ → q ρ) → st d ρ p → st d ρ q) (h0 : Q (.l (xs.map g) true)) : lcLoop st tt el ρ (xs.map f) [] Q := by
  suffices H : ∀ (ys zs : List α) (acc : List D), ys ++ zs = xs → acc = ys.map g → lcLoop st tt el ρ (zs.map f) acc Q from H [] xs [] rfl rfl
  intro ys zs
  induction zs generalizing ys with
  | nil =>
    intro acc e e2
    subst e2
    rw [List.append_nil] at e
    subst e
    exact h0
  | cons z zs ih =>
    intro acc e e2
    refine ms _ _ _ (fun ρ2 h => mt _ _ _ (fun b h => ?_) h) (h1 z (by rw [← e]; simp) (fun y => lcLoop st tt el ρ (zs.map f) (acc ++ [y]) Q) (ih (ys ++ [z]) (acc ++ [g z]) (by rw [← e]; simp) (by rw [e2]; simp)))
    obtain ⟨h1, h2⟩ := h
    subst h1
    exact ⟨fun _ => h2, fun z => nomatch z⟩
theorem stT_mono {t : Tg} {d : D} {ρ : En} {p q : En → Prop} (i : ∀ ρ, p ρ → q ρ) (h : stT t d ρ p) : stT t d ρ q := by
  unfold stT at h ⊢
  cases t with
  | nm j => exact i _ h
  | tp is =>
    cases d with
    | tuple ds =>
      dsimp only at h ⊢
      cases e : setAll ρ is ds with
      | none => rw [e] at h; exact h.elim
      | some ρ' => rw [e] at h; exact i _ h
    | _ => exact h.elim
theorem lc_map1 {G : Nat → DSp} {t : Tg} {el : En → (R → Prop) → Prop} {ρ : En} {Q : R → Prop} {α : Type} (f g : α → D) (xs : List α)
    (h1 : ∀ x ∈ xs, ∀ k : D → Prop, k (g x) → stT t (f x) ρ fun ρ2 => el ρ2 fun r => frzP r k) (h0 : Q (.l (xs.map g) true)) : lcLoop (stT t) (fun ρ2 k => wCond G .nil ρ2 k) el ρ (xs.map f) [] Q :=
  lc_map f g xs (fun x hx k hk => stT_mono (fun ρ2 h => show wCond G .nil ρ2 _ from (show true = true ∧ _ from ⟨rfl, h⟩)) (h1 x hx k hk)) (fun ρ2 p q i h => i _ h) (fun d p q i h => stT_mono i h) h0
theorem atI_at {ds : List D} {i : Int} (h0 : 0 ≤ i) (h1 : i < ds.length) : atI ds i = ds[i.toNat]? := by
  have e : ixN ds.length i = some i.toNat := by
    unfold ixN
    rw [if_pos h0, if_pos h1]
  unfold atI
  rw [e] <;> rfl
theorem atI_mem {ds : List D} {i : Int} (h0 : 0 ≤ i) (h1 : i < ds.length) : ∃ d, atI ds i = some d ∧ d ∈ ds := by
  rw [atI_at h0 h1]
  have h : i.toNat < ds.length := by omega
  exact ⟨ds[i.toNat], List.getElem?_eq_getElem h, List.getElem_mem h⟩
theorem atI_mem2 {ds : List D} {i : Int} (h0 : -(ds.length : Int) ≤ i) (h1 : i < ds.length) : ∃ d, atI ds i = some d ∧ d ∈ ds := by
  by_cases h : 0 ≤ i
  · exact atI_mem h h1
  · have e : ixN ds.length i = some (i + ds.length).toNat := by
      unfold ixN
      rw [if_neg h, if_pos h0]
    have hl : (i + ds.length).toNat < ds.length := by omega
    refine ⟨ds[(i + ds.length).toNat], ?_, List.getElem_mem hl⟩
    unfold atI
    rw [e]
    exact List.getElem?_eq_getElem hl
theorem atI_maps {α : Type} {f : α → D} {xs : List α} {i : Int} (h0 : -(xs.length : Int) ≤ i) (h1 : i < xs.length) : ∃ x ∈ xs, atI (xs.map f) i = some (f x) := by
  obtain ⟨d, h2, h3⟩ := atI_mem2 (ds := xs.map f) (by simpa using h0) (by simpa using h1)
  obtain ⟨x, h4, h5⟩ := List.mem_map.mp h3
  exact ⟨x, h4, by rw [h2, h5]⟩
theorem cut_gen (ds : List D) (i j : Nat) : cutD ds (some (i : Int)) (some (j : Int)) = (ds.drop i).take (j - i) := by
  unfold cutD
  rw [HT.sIx_nat, HT.sIx_nat]
  by_cases h : i ≤ ds.length
  · rw [Nat.min_eq_left h]
    by_cases h2 : j ≤ ds.length
    · rw [Nat.min_eq_left h2]
    · rw [Nat.min_eq_right (by omega), List.take_of_length_le (by rw [List.length_drop]; omega), List.take_of_length_le (by rw [List.length_drop]; omega)]
  · have e1 : min i ds.length = ds.length := Nat.min_eq_right (by omega)
    rw [e1, List.drop_length, List.drop_of_length_le (by omega)]
    simp
theorem cut_to (ds : List D) (j : Nat) : cutD ds none (some (j : Int)) = ds.take j := by
  have := cut_gen ds 0 j
  unfold cutD at this ⊢
  have e : HT.sIx ds.length 0 (some ((0 : Nat) : Int)) = HT.sIx ds.length 0 none := by rw [HT.sIx_nat]; simp [HT.sIx]
  rw [e] at this
  rw [this]
  simp
theorem cut_from (ds : List D) (i : Nat) : cutD ds (some (i : Int)) none = ds.drop i := by
  unfold cutD
  rw [HT.sIx_nat, HT.sIx_none]
  by_cases h : i ≤ ds.length
  · rw [Nat.min_eq_left h, List.take_of_length_le (by rw [List.length_drop]; exact Nat.le_refl _)]
  · have e1 : min i ds.length = ds.length := Nat.min_eq_right (by omega)
    rw [e1, List.drop_length, List.drop_of_length_le (by omega)]
    simp
theorem cut_init (ds : List D) : cutD ds none (some (-1)) = ds.dropLast := by
  unfold cutD
  rw [HT.sIx_none]
  have e : HT.sIx ds.length ds.length (some (-1)) = ds.length - 1 := by
    unfold HT.sIx
    simp
    omega
  rw [e, List.drop_zero, List.dropLast_eq_take]
  rfl
theorem small_lt {n : Nat} (h : n ≤ 100000) : n < sizeLine := Nat.lt_of_le_of_lt h (by decide)
theorem small_sz {n : Nat} (h : n ≤ 100000) : n ≤ sizeLine := Nat.le_trans h (by decide)
/-! ### data -/
def rD (r : Rat) : D := .tuple [.int r.num, .int r.den]
end DL
namespace DL
open PySem PySem.Spec PyProof.Rows L2
theorem def_no {P : Program} {w : World} {K : PySem.W.Frag} {mg : Str → Option Value} {base : Heap} {T : Tb} {G : Nat → DSp} {k f : Nat} {a : Addr} {fd : FuncData} {qual : Str} {params : Arguments} {body : List Stmt} {scope : Scope} {N ps : List Str}
    (F : FunD K (T.fn f) qual params body scope [] [] a fd) (hm : mg (T.fn f) = some (.ref a)) (S : FnScope N ps scope) (hb : Binds K fd ps [])
    (hw : ∀ ds Q X, ¬ G f ds Q X) : FnP P w K mg base T G (k + 1) f :=
  ⟨a, fd, ps, F.ok S (fun vs H Q E h => by obtain ⟨F0, ds, P1, PE, fh, hd, hg, _⟩ := h; exact (hw _ _ _ hg).elim) (fun cdv A outer s H vs Q E hr h => by obtain ⟨F0, ds, P1, PE, fh, hd, hg, _⟩ := h; exact (hw _ _ _ hg).elim), hm, F.kp, hb⟩
end DL
end
section
namespace DL
def m_common_measure : Ss := (.cons (.set 0 (.bi .abs (.cons (.v 0) .nil))) (.cons (.set 1 (.bi .abs (.cons (.v 1) .nil))) (.cons (.whl (.cmp .Gt (.v 1) (.int 0)) (.cons (.par2 0 1 (.v 1) (.bin .Mod (.v 0) (.v 1))) .nil)) (.cons (.ret (.v 0)) .nil))))
end DL
end
section
namespace DL
def m_lowest : Ss := (.cons (.ifs (.cmp .Eq (.v 1) (.int 0)) (.cons (.rais 1) .nil) .nil) (.cons (.set 2 (.call 0 (.cons (.v 0) (.cons (.v 1) .nil)))) (.cons (.ifs (.cmp .Lt (.v 1) (.int 0)) (.cons (.set 2 (.neg (.v 2))) .nil) .nil) (.cons (.ret (.tup (.cons (.bin .FloorDiv (.v 0) (.v 2)) (.cons (.bin .FloorDiv (.v 1) (.v 2)) .nil)))) .nil))))
end DL
end
section
namespace DL
def m_added : Ss := (.cons (.ret (.call 1 (.cons (.bin .Add (.bin .Mult (.ix (.v 0) (.int 0)) (.ix (.v 1) (.int 1))) (.bin .Mult (.ix (.v 1) (.int 0)) (.ix (.v 0) (.int 1)))) (.cons (.bin .Mult (.ix (.v 0) (.int 1)) (.ix (.v 1) (.int 1))) .nil)))) .nil)
end DL
end
section
namespace DL
end DL
end
section
namespace DL
def m_multiplied : Ss := (.cons (.ret (.call 1 (.cons (.bin .Mult (.ix (.v 0) (.int 0)) (.ix (.v 1) (.int 0))) (.cons (.bin .Mult (.ix (.v 0) (.int 1)) (.ix (.v 1) (.int 1))) .nil)))) .nil)
end DL
end
section
namespace DL
end DL
end
section
namespace DL
end DL
end
section
set_option maxRecDepth 100000
set_option maxHeartbeats 4000000
namespace DL
open PySem L2
def sp_common_measure : DSp := fun ds Q X => ∃ a b : Int, ds = [.int a, .int b] ∧ Q (.d (.int (Int.gcd a b)))
theorem abs_if (a : Int) : (if a < 0 then -a else a) = (a.natAbs : Int) := by split <;> omega
theorem gcd_step (x y : Int) (hy : 0 < y) : Int.gcd y (x.fmod y) = Int.gcd x y := by
  rw [Int.fmod_eq_emod_of_nonneg x (by omega)]
  have h := Int.mul_ediv_add_emod x y
  have h2 := Int.gcd_add_mul_left_right y (x % y) (x / y)
  rw [Int.add_comm, h] at h2
  rw [← h2, Int.gcd_comm]
theorem p_common_measure {G : Nat → DSp} : FnW G 2 2 m_common_measure sp_common_measure := by
  intro ds Q X ⟨a, b, e, q⟩
  subst e
  refine ⟨rfl, ?_⟩
  conv => whnf
  refine ⟨fun n ρ => ∃ x y : Int, ρ = [some (.d (.int x)), some (.d (.int y))] ∧ n = y.toNat ∧ 0 ≤ x ∧ 0 ≤ y ∧ Int.gcd x y = Int.gcd a b, ⟨_, _, _, rfl, rfl, by split <;> omega, by split <;> omega, by rw [abs_if, abs_if]; simp [Int.gcd]⟩, ?_⟩
  rintro n ρ ⟨x, y, rfl, rfl, hx, hy, hg⟩
  conv => whnf
  refine ⟨fun h => ?_, fun h => ?_⟩
  · have h : 0 < y := by simpa using h
    conv => whnf
    refine ⟨by omega, fun q hq hq' => ?_⟩
    conv => whnf
    subst hq
    have h1 := Int.fmod_nonneg_of_pos x h
    have h2 := Int.fmod_lt_of_pos x h
    refine ⟨_, by omega, _, _, rfl, rfl, hy, h1, ?_⟩
    rw [gcd_step x y h]
    exact hg
  · have h : y = 0 := by
      have : ¬ 0 < y := by simpa using h
      omega
    subst h
    conv => whnf
    have e : x = (Int.gcd a b : Int) := by rw [← hg]; simp; omega
    rw [e]
    exact q
def LowOk (a b : Int) : Prop := b ≠ 0 → Bd 8999 (Int.gcd a b : Int)
def sp_lowest : DSp := fun ds Q X => ∃ a b : Int, ds = [.int a, .int b] ∧ LowOk a b ∧ (b = 0 → X 1) ∧ (b ≠ 0 → Q (.d (rD (Rat.divInt a b))))
theorem low_num {a b : Int} (hb : b ≠ 0) (s : Int) (hs : s = if b < 0 then -(Int.gcd a b : Int) else (Int.gcd a b : Int)) : a.fdiv s = (Rat.divInt a b).num ∧ b.fdiv s = ((Rat.divInt a b).den : Int) := by
  have hg : 0 < Int.gcd a b := Int.gcd_pos_of_ne_zero_right _ hb
  obtain ⟨u, hu⟩ : (Int.gcd a b : Int) ∣ a := Int.gcd_dvd_left ..
  obtain ⟨v, hv⟩ : (Int.gcd a b : Int) ∣ b := Int.gcd_dvd_right ..
  rw [Rat.num_divInt, Rat.den_divInt, Int.gcd_comm b a, if_neg hb]
  generalize hG : Int.gcd a b = g at *
  have g0 : (g : Int) ≠ 0 := by omega
  have nb : b.natAbs = g * v.natAbs := by rw [hv, Int.natAbs_mul]; simp
  have e4 : (((b.natAbs / g : Nat)) : Int) = (v.natAbs : Int) := by rw [nb, Nat.mul_div_cancel_left _ hg]
  rw [e4]
  subst hs
  split
  · rename_i hneg
    have hv0 : v < 0 := by
      rcases Int.lt_trichotomy v 0 with h | h | h
      · exact h
      · subst h; simp at hv; omega
      · have : 0 < (g : Int) * v := Int.mul_pos (by omega) h
        omega
    have sg : b.sign = -1 := Int.sign_eq_neg_one_of_neg hneg
    rw [sg]
    constructor
    · have : a.fdiv (-(g : Int)) = -u := by
        rw [hu, Int.mul_comm, show u * (g : Int) = (-u) * (-(g : Int)) by grind, Int.mul_fdiv_cancel _ (by omega)]
      rw [this, show -1 * a = (-u) * (g : Int) by grind, Int.mul_ediv_cancel _ g0]
    · have : b.fdiv (-(g : Int)) = -v := by
        rw [hv, Int.mul_comm, show v * (g : Int) = (-v) * (-(g : Int)) by grind, Int.mul_fdiv_cancel _ (by omega)]
      rw [this]
      omega
  · rename_i hneg
    have hv0 : 0 < v := by
      rcases Int.lt_trichotomy v 0 with h | h | h
      · have : (g : Int) * v < 0 := Int.mul_neg_of_pos_of_neg (by omega) h
        omega
      · subst h; simp at hv; omega
      · exact h
    have sg : b.sign = 1 := Int.sign_eq_one_of_pos (by omega)
    rw [sg]
    constructor
    · rw [Int.one_mul]
      rw [hu, Int.mul_comm, Int.mul_fdiv_cancel _ g0, Int.mul_ediv_cancel _ g0]
    · rw [hv, Int.mul_comm, Int.mul_fdiv_cancel _ g0]
      omega
theorem gcd_bd {n : Nat} {a b : Int} (h : Bd n b) (hb : b ≠ 0) : Bd n (Int.gcd a b) := by
  refine h.le ?_
  have := Nat.le_of_dvd (by omega) (Int.gcd_dvd_natAbs_right a b)
  simpa using this
theorem low_ok {a b : Int} (h : Bd 8999 b) : LowOk a b := fun z => gcd_bd h z
theorem p_lowest {G : Nat → DSp} (g0 : G 0 = sp_common_measure) : FnW G 3 2 m_lowest sp_lowest := by
  intro ds Q X ⟨a, b, e, hb, q1, q2⟩
  subst e
  refine ⟨rfl, ?_⟩
  conv => whnf
  refine ⟨fun h => q1 (by simpa using h), fun h => ?_⟩
  have h : b ≠ 0 := by simpa using h
  conv => whnf
  rw [g0]
  refine ⟨_, _, rfl, ?_⟩
  have gb := hb h
  have gp : 0 < Int.gcd a b := Int.gcd_pos_of_ne_zero_right _ h
  conv => whnf
  refine ⟨fun hn => ?_, fun hn => ?_⟩
  · have hn : b < 0 := by simpa using hn
    obtain ⟨e1, e2⟩ := low_num (a := a) h (-(Int.gcd a b : Int)) (by rw [if_pos hn])
    conv => whnf
    refine ⟨by omega, div_ok gb.neg (by decide), fun u hu _ => ?_⟩
    conv => whnf
    refine ⟨by omega, div_ok gb.neg (by decide), fun v hv _ => ?_⟩
    conv => whnf
    refine ⟨by show 2 ≤ sizeLine; decide, ?_⟩
    conv => whnf
    rw [hu, hv, e1, e2]
    exact q2 h
  · have hn : ¬ b < 0 := by simpa using hn
    obtain ⟨e1, e2⟩ := low_num (a := a) h (Int.gcd a b : Int) (by rw [if_neg hn])
    conv => whnf
    refine ⟨by omega, div_ok gb (by decide), fun u hu _ => ?_⟩
    conv => whnf
    refine ⟨by omega, div_ok gb (by decide), fun v hv _ => ?_⟩
    conv => whnf
    refine ⟨by show 2 ≤ sizeLine; decide, ?_⟩
    conv => whnf
    rw [hu, hv, e1, e2]
    exact q2 h
def RB (n : Nat) (r : Rat) : Prop := Bd n r.num ∧ Bd n r.den
theorem RB.mono {m n : Nat} {r : Rat} (h : RB m r) (l : m ≤ n) : RB n r := ⟨h.1.mono l, h.2.mono l⟩
theorem num_le {a b : Int} : (Rat.divInt a b).num.natAbs ≤ a.natAbs := by
  rw [Rat.num_divInt]
  have h1 : (b.sign * a).natAbs ≤ a.natAbs := by
    rw [Int.natAbs_mul]
    have : b.sign.natAbs ≤ 1 := by
      rcases Int.lt_trichotomy b 0 with h | h | h
      · rw [Int.sign_eq_neg_one_of_neg h]; decide
      · subst h; decide
      · rw [Int.sign_eq_one_of_pos h]; decide
    calc b.sign.natAbs * a.natAbs ≤ 1 * a.natAbs := Nat.mul_le_mul_right _ this
      _ = a.natAbs := Nat.one_mul _
  refine Nat.le_trans ?_ h1
  have : (b.sign * a / (b.gcd a : Int)).natAbs = (b.sign * a).natAbs / (b.gcd a) ∨ True := .inr trivial
  have hd : ((b.gcd a : Nat) : Int) ∣ b.sign * a := Int.dvd_trans (Int.gcd_dvd_right ..) (Int.dvd_mul_left ..)
  obtain ⟨u, hu⟩ := hd
  by_cases hz : b.gcd a = 0
  · rw [hz]; simp
  · rw [hu, Int.mul_ediv_cancel_left _ (by omega), Int.natAbs_mul]
    exact Nat.le_mul_of_pos_left _ (by simpa using Nat.pos_of_ne_zero hz)
theorem den_le {a b : Int} (hb : b ≠ 0) : ((Rat.divInt a b).den : Int).natAbs ≤ b.natAbs := by
  rw [Rat.den_divInt, if_neg hb]
  rw [Int.natAbs_natCast]
  exact Nat.div_le_self _ _
theorem RB.divInt {n : Nat} {a b : Int} (h1 : Bd n a) (h2 : Bd n b) (hb : b ≠ 0) : RB n (Rat.divInt a b) := ⟨h1.le num_le, h2.le (den_le hb)⟩
theorem den_ne (r : Rat) : (r.den : Int) ≠ 0 := by have := r.den_pos; omega
theorem rat_add (r s : Rat) : Rat.divInt (r.num * s.den + s.num * r.den) (r.den * s.den) = r + s := by
  rw [← Rat.divInt_add_divInt _ _ (den_ne r) (den_ne s), Rat.num_divInt_den, Rat.num_divInt_den]
theorem rat_sub (r s : Rat) : Rat.divInt (r.num * s.den - s.num * r.den) (r.den * s.den) = r - s := by
  have := rat_add r (-s)
  rw [Rat.neg_num, Rat.neg_den, ← Rat.sub_eq_add_neg] at this
  rw [← this]
  congr 1
  grind
theorem rat_mul (r s : Rat) : Rat.divInt (r.num * s.num) (r.den * s.den) = r * s := by
  rw [← Rat.divInt_mul_divInt, Rat.num_divInt_den, Rat.num_divInt_den]
theorem RB.add {m n : Nat} {r s : Rat} (h : RB m r) (g : RB n s) : RB (m + n + 1) (r + s) := by
  rw [← rat_add]
  refine RB.divInt (((h.1.mul g.2).add (g.1.mul h.2)).mono (by omega)) ((h.2.mul g.2).mono (by omega)) (Int.mul_ne_zero (den_ne r) (den_ne s))
theorem RB.sub {m n : Nat} {r s : Rat} (h : RB m r) (g : RB n s) : RB (m + n + 1) (r - s) := by
  rw [← rat_sub]
  refine RB.divInt (((h.1.mul g.2).sub (g.1.mul h.2)).mono (by omega)) ((h.2.mul g.2).mono (by omega)) (Int.mul_ne_zero (den_ne r) (den_ne s))
theorem RB.mul {m n : Nat} {r s : Rat} (h : RB m r) (g : RB n s) : RB (m + n) (r * s) := by
  rw [← rat_mul]
  exact RB.divInt (h.1.mul g.1) (h.2.mul g.2) (Int.mul_ne_zero (den_ne r) (den_ne s))
theorem eqv_tup {xs ys : List D} : PyData.eqv (.tuple xs) (.tuple ys) = PyData.eqvAll xs ys := by unfold PyData.eqv; rfl
theorem eqv_nil : PyData.eqvAll [] [] = true := by unfold PyData.eqvAll; rfl
theorem eqv_cons {x y : D} {xs ys : List D} : PyData.eqvAll (x :: xs) (y :: ys) = (PyData.eqv x y && PyData.eqvAll xs ys) := by rw [PyData.eqvAll]
theorem eqv_rD (r s : Rat) : PyData.eqv (rD r) (rD s) = decide (r = s) := by
  unfold rD
  rw [eqv_tup, eqv_cons, eqv_cons, eqv_nil, eqv_i, eqv_i, Bool.and_true, Bool.eq_iff_iff]
  simp only [Bool.and_eq_true, decide_eq_true_iff]
  constructor
  · rintro ⟨h1, h2⟩
    exact Rat.ext h1 (by omega)
  · rintro rfl
    exact ⟨rfl, rfl⟩
theorem flat_t {xs ys : List D} (h : PyData.depthAll xs ≤ 99) : Flat (.tuple xs) (.tuple ys) := by
  unfold Flat
  refine Nat.le_trans (Nat.min_le_left _ _) ?_
  rw [PyData.depth]
  omega
theorem flat_r (r s : Rat) : Flat (rD r) (rD s) := flat_t (by simp [PyData.depthAll, PyData.depth])
theorem eq_rD {r s : Rat} {Q : R → Prop} (h : Q (.d (.bool (decide (r = s))))) : wEq0 (rD r) (rD s) Q := ⟨flat_r r s, by rw [eqv_rD]; exact h⟩
theorem ne_rD {r s : Rat} {Q : R → Prop} (h : Q (.d (.bool (!decide (r = s))))) : wNe0 (rD r) (rD s) Q := ⟨flat_r r s, by rw [eqv_rD]; exact h⟩
theorem eqv_ts (xs : List D) (z : Str) : PyData.eqv (.tuple xs) (.str z) = false := by unfold PyData.eqv; rfl
theorem flat_s (x : D) (z : Str) : Flat x (.str z) := by
  unfold Flat
  refine Nat.le_trans (Nat.min_le_right _ _) ?_
  simp [PyData.depth]
theorem eq_ts {xs : List D} {z : Str} {Q : R → Prop} (h : Q (.d (.bool false))) : wEq0 (.tuple xs) (.str z) Q := ⟨flat_s _ _, by rw [eqv_ts]; exact h⟩
theorem ne_ts {xs : List D} {z : Str} {Q : R → Prop} (h : Q (.d (.bool true))) : wNe0 (.tuple xs) (.str z) Q := ⟨flat_s _ _, by rw [eqv_ts]; exact h⟩
theorem eqv_vD (u v : Vec) : PyData.eqv (vD u) (vD v) = decide (u = v) := by
  unfold vD
  rw [eqv_tup, eqv_cons, eqv_cons, eqv_nil, eqv_i, eqv_i, Bool.and_true, Bool.eq_iff_iff]
  simp only [Bool.and_eq_true, decide_eq_true_iff]
  constructor
  · rintro ⟨h1, h2⟩
    exact Prod.ext h1 h2
  · rintro rfl
    exact ⟨rfl, rfl⟩
theorem flat_v (u v : Vec) : Flat (vD u) (vD v) := flat_t (by simp [PyData.depthAll, PyData.depth])
theorem eq_vD {a b c d : Int} {Q : R → Prop} (h : Q (.d (.bool (decide ((a, b) = (c, d)))))) : wEq0 (.tuple [.int a, .int b]) (.tuple [.int c, .int d]) Q := ⟨flat_v (a, b) (c, d), by have := eqv_vD (a, b) (c, d); unfold vD at this; rw [this]; exact h⟩
theorem ne_vD {a b c d : Int} {Q : R → Prop} (h : Q (.d (.bool (!decide ((a, b) = (c, d)))))) : wNe0 (.tuple [.int a, .int b]) (.tuple [.int c, .int d]) Q := ⟨flat_v (a, b) (c, d), by have := eqv_vD (a, b) (c, d); unfold vD at this; rw [this]; exact h⟩
def sp_added : DSp := fun ds Q X => ∃ (r s : Rat) (m n : Nat), ds = [rD r, rD s] ∧ RB m r ∧ RB n s ∧ m + n ≤ 8990 ∧ Q (.d (rD (r + s)))
def sp_multiplied : DSp := fun ds Q X => ∃ (r s : Rat) (m n : Nat), ds = [rD r, rD s] ∧ RB m r ∧ RB n s ∧ m + n ≤ 8990 ∧ Q (.d (rD (r * s)))
theorem p_added {G : Nat → DSp} (g1 : G 1 = sp_lowest) : FnW G 2 2 m_added sp_added := by
  intro ds Q X ⟨r, s, m, n, e, hr, hs, l, q⟩
  subst e
  refine ⟨rfl, ?_⟩
  conv => whnf
  refine ⟨mul_ok hr.1 hs.2 (by omega), ?_⟩
  conv => whnf
  refine ⟨mul_ok hs.1 hr.2 (by omega), ?_⟩
  conv => whnf
  refine ⟨mul_ok hr.2 hs.2 (by omega), ?_⟩
  conv => whnf
  rw [g1]
  have ne := Int.mul_ne_zero (den_ne r) (den_ne s)
  refine ⟨_, _, rfl, low_ok ((hr.2.mul hs.2).mono (by omega)), fun z => absurd z ne, fun _ => ?_⟩
  conv => whnf
  rw [rat_add]
  exact q
theorem p_multiplied {G : Nat → DSp} (g1 : G 1 = sp_lowest) : FnW G 2 2 m_multiplied sp_multiplied := by
  intro ds Q X ⟨r, s, m, n, e, hr, hs, l, q⟩
  subst e
  refine ⟨rfl, ?_⟩
  conv => whnf
  refine ⟨mul_ok hr.1 hs.1 (by omega), ?_⟩
  conv => whnf
  refine ⟨mul_ok hr.2 hs.2 (by omega), ?_⟩
  conv => whnf
  rw [g1]
  have ne := Int.mul_ne_zero (den_ne r) (den_ne s)
  refine ⟨_, _, rfl, low_ok ((hr.2.mul hs.2).mono (by omega)), fun z => absurd z ne, fun _ => ?_⟩
  conv => whnf
  rw [rat_mul]
  exact q
end DL
end
section
namespace DL
end DL
end
section
namespace DL
end DL
end
section
namespace DL
end DL
end
section
set_option maxHeartbeats 4000000
namespace DL
def crs (u v : Vec) : Int := u.1 * v.2 - u.2 * v.1
def sb (a b : Vec) : Vec := (b.1 - a.1, b.2 - a.2)
def dot (u v : Vec) : Int := u.1 * v.1 + u.2 * v.2
def tn (a b c : Vec) : Int := crs (sb a b) (sb b c)
def lp (u : Vec) : Prop := 0 < u.1 ∨ (u.1 = 0 ∧ 0 < u.2)
theorem lp_sb {a b : Vec} : lp (sb a b) ↔ vLt a b := by unfold lp sb vLt; dsimp only; omega
theorem vLt_irr {a : Vec} : ¬ vLt a a := by unfold vLt; omega
theorem vLt_tr {a b c : Vec} (h : vLt a b) (g : vLt b c) : vLt a c := by unfold vLt at *; omega
theorem vLt_as {a b : Vec} (h : vLt a b) (g : vLt b a) : False := vLt_irr (vLt_tr h g)
theorem vLt_tot (a b : Vec) : a = b ∨ vLt a b ∨ vLt b a := by
  obtain ⟨a1, a2⟩ := a
  obtain ⟨b1, b2⟩ := b
  unfold vLt
  dsimp only
  rw [Prod.mk.injEq]
  omega
theorem crs_swap (u v : Vec) : crs u v = -crs v u := by unfold crs; grind
theorem crs_zero (u : Vec) : crs u (0, 0) = 0 := by unfold crs; simp
theorem crs_shift (a b c : Vec) : crs (sb a b) (sb a c) = crs (sb a b) (sb b c) := by unfold crs sb; grind
theorem crs_rev (u a b : Vec) : crs u (sb a b) = -crs u (sb b a) := by unfold crs sb; grind
theorem crs_sb (a q p : Vec) : crs (sb a q) p = crs q p - crs a p := by unfold crs sb; grind
theorem crs_id (u v w : Vec) : v.1 * crs u w = u.1 * crs v w + w.1 * crs u v := by unfold crs; grind
theorem lp_nn {u : Vec} (h : lp u) : 0 ≤ u.1 := by unfold lp at h; omega
theorem lp_tr {u v w : Vec} (hu : lp u) (hv : lp v) (hw : lp w) (h1 : 0 ≤ crs u v) (h2 : 0 ≤ crs v w) : 0 ≤ crs u w := by
  have i := crs_id u v w
  rcases hv with h | ⟨h, h'⟩
  · have a := Int.mul_nonneg (lp_nn hu) h2
    have b := Int.mul_nonneg (lp_nn hw) h1
    refine Int.not_lt.mp fun z => ?_
    have := Int.mul_neg_of_pos_of_neg h z
    omega
  · have e : crs v w = -(v.2 * w.1) := by unfold crs; rw [h]; grind
    have : w.1 = 0 := by
      rcases Int.lt_or_le 0 w.1 with z | z
      · have := Int.mul_pos h' z
        omega
      · have := lp_nn hw
        omega
    rcases hw with g | ⟨g, g'⟩
    · omega
    · have e2 : crs u w = u.1 * w.2 := by unfold crs; rw [g]; grind
      rw [e2]
      exact Int.mul_nonneg (lp_nn hu) (by omega)
theorem lp_tr2 {u v w : Vec} (hu : lp u) (hv : lp v) (hw : lp w) (h1 : 0 ≤ crs u v) (h2 : 0 < crs v w) : 0 < crs u w := by
  refine Int.lt_iff_le_and_ne.mpr ⟨lp_tr hu hv hw h1 (Int.le_of_lt h2), fun z => ?_⟩
  have i := crs_id u v w
  rw [← z, Int.mul_zero] at i
  have a := Int.mul_nonneg (lp_nn hw) h1
  rcases hu with g | ⟨g, g'⟩
  · have := Int.mul_pos g h2
    omega
  · have e : crs u w = -(u.2 * w.1) := by unfold crs; rw [g]; grind
    have e1 : crs u v = -(u.2 * v.1) := by unfold crs; rw [g]; grind
    have hv0 : v.1 = 0 := by
      rcases Int.lt_or_le 0 v.1 with q | q
      · have := Int.mul_pos g' q
        omega
      · have := lp_nn hv
        omega
    have e3 : crs v w = -(v.2 * w.1) := by unfold crs; rw [hv0]; grind
    have := Int.mul_nonneg (show 0 ≤ v.2 by unfold lp at hv; omega) (lp_nn hw)
    omega
def popF (v : Vec) : List Vec → List Vec
  | b :: a :: r => if tn a b v ≤ 0 then popF v (a :: r) else b :: a :: r
  | s => s
def stk (S : List Vec) (row : List Vec) : List Vec := row.foldl (fun S v => v :: popF v S) S
def halfF (row : List Vec) : List Vec := (stk [] row).reverse
def Lo (P : Vec → Prop) : Vec → List Vec → Prop
  | a, [] => ∀ p, P p → p = a ∨ vLt p a
  | a, b :: r => P b ∧ vLt a b ∧ (∀ p, P p → 0 ≤ crs (sb a b) (sb a p)) ∧ (∀ c r', r = c :: r' → 0 < tn a b c) ∧ Lo P b r
structure LoH (P : Vec → Prop) (a : Vec) (r : List Vec) : Prop where
  at_ : P a
  min : ∀ p, P p → p = a ∨ vLt a p
  lo : Lo P a r
theorem lo_max {P : Vec → Prop} {p : Vec} (hp : lp p) : ∀ (r : List Vec) (a : Vec), P a → Lo P a r → (∀ q, P q → vLt q a → crs q p ≤ crs a p) → ∃ v ∈ a :: r, P v ∧ ∀ q, P q → crs q p ≤ crs v p
  | [], a, pa, h, bef => ⟨a, List.mem_cons_self, pa, fun q hq => by
    rcases h q hq with e | e
    · rw [e]; exact Int.le_refl _
    · exact bef q hq e⟩
  | b :: r, a, pa, h, bef => by
    obtain ⟨h1, h2, h3, h4, h5⟩ := h
    rcases Int.lt_or_le 0 (crs (sb a b) p) with z | z
    · obtain ⟨v, m, pv, q⟩ := lo_max hp r b h1 h5 fun q hq hqb => by
        have l := h3 q hq
        rw [crs_shift, crs_rev, ← crs_swap] at l
        have := lp_tr2 (lp_sb.mpr hqb) (lp_sb.mpr h2) hp l z
        rw [crs_sb] at this
        omega
      exact ⟨v, List.mem_cons_of_mem _ m, pv, q⟩
    · refine ⟨a, List.mem_cons_self, pa, fun q hq => ?_⟩
      rcases vLt_tot a q with e | e | e
      · rw [← e]; exact Int.le_refl _
      · have := lp_tr hp (lp_sb.mpr h2) (lp_sb.mpr e) (by rw [crs_swap]; omega) (h3 q hq)
        rw [crs_swap, crs_sb] at this
        omega
      · exact bef q hq e
theorem LoH.max {P : Vec → Prop} {a p : Vec} {r : List Vec} (h : LoH P a r) (hp : lp p) : ∃ v ∈ a :: r, P v ∧ ∀ q, P q → crs q p ≤ crs v p :=
  lo_max hp r a h.at_ h.lo fun q hq z => by
    rcases h.min q hq with e | e
    · rw [e] at z; exact (vLt_irr z).elim
    · exact (vLt_as z e).elim
end DL
end
section
set_option maxRecDepth 100000
set_option maxHeartbeats 4000000
set_option exponentiation.threshold 100000
namespace DL
open PySem L2
local macro_rules | `(tactic| l_ints) => `(tactic| first | (assumption) | (apply Bd.neg; l_ints) | (apply Bd.mul <;> l_ints) | (exact bd40 (by omega) (by omega)) | (apply Bd.add <;> l_ints) | (apply Bd.sub <;> l_ints) | (exact bd130 (by omega) (by omega)) | (exact bd210 (by omega) (by omega)) | (exact bd_self _) | fail)
def VB (k : Nat) (v : Vec) : Prop := Bd k v.1 ∧ Bd k v.2
theorem VB.mono {m k : Nat} {v : Vec} (h : VB m v) (l : m ≤ k) : VB k v := ⟨h.1.mono l, h.2.mono l⟩
def windD (vs : List Vec) : D := .tuple (vs.map vD)
structure IsFar (vs : List Vec) (b : Vec) (m : Int) : Prop where
  mem : ∃ v ∈ vs, dot v b = m
  le : ∀ v ∈ vs, dot v b ≤ m
end DL
end
section
set_option maxHeartbeats 4000000
namespace DL
def ng (v : Vec) : Vec := (-v.1, -v.2)
theorem ng_ng (v : Vec) : ng (ng v) = v := by unfold ng; simp
def nP (P : Vec → Prop) : Vec → Prop := fun p => P (ng p)
theorem nP_nP (P : Vec → Prop) : nP (nP P) = P := by funext p; unfold nP; rw [ng_ng]
theorem ng_lt {a b : Vec} : vLt (ng a) (ng b) ↔ vLt b a := by unfold vLt ng; dsimp only; omega
theorem ng_inj {a b : Vec} (h : ng a = ng b) : a = b := by rw [← ng_ng a, h, ng_ng]
theorem crs_ng (u v : Vec) : crs (ng u) (ng v) = crs u v := by unfold crs ng; grind
theorem crs_ng1 (u v : Vec) : crs (ng u) v = -crs u v := by unfold crs ng; grind
theorem crs_ng2 (u v : Vec) : crs u (ng v) = -crs u v := by unfold crs ng; grind
def Sup (P Q : Vec → Prop) : Prop := ∀ q, Q q → ∀ p : Vec, ∃ x, P x ∧ crs q p ≤ crs x p
theorem dot_crs (d q : Vec) : dot d q = crs q (-d.2, d.1) := by unfold dot crs; grind
theorem Sup.ng {P Q : Vec → Prop} (h : Sup P Q) : Sup (nP P) (nP Q) := fun q hq p => by
  obtain ⟨x, h1, h2⟩ := h (DL.ng q) hq (DL.ng p)
  refine ⟨DL.ng x, by show P (DL.ng (DL.ng x)); rw [ng_ng]; exact h1, ?_⟩
  rw [crs_ng] at h2
  rw [crs_ng1, ← crs_ng2]
  exact h2
theorem Sup.of {P Q : Vec → Prop} (h : ∀ q, Q q → ∀ d : Vec, ∃ x, P x ∧ dot d q ≤ dot d x) : Sup P Q := fun q hq p => by
  obtain ⟨x, h1, h2⟩ := h q hq (p.2, -p.1)
  rw [dot_crs, dot_crs] at h2
  refine ⟨x, h1, ?_⟩
  have e : (-(p.2, -p.1).2, (p.2, -p.1).1) = p := by simp
  rw [e] at h2
  exact h2
theorem Sup.sub {P Q : Vec → Prop} (h : ∀ q, Q q → P q) : Sup P Q := fun q hq p => ⟨q, h q hq, Int.le_refl _⟩
section
variable {P Q : Vec → Prop}
end
instance (a b : Vec) : Decidable (vLt a b) := inferInstanceAs (Decidable (_ ∨ _))
def insV (v : Vec) : List Vec → List Vec
  | [] => [v]
  | w :: ws => if v = w then w :: ws else if vLt v w then v :: w :: ws else w :: insV v ws
def srtV (vs : List Vec) : List Vec := vs.foldr insV []
def hullW (ws : List Vec) : List Vec := if ws.length = 1 then ws else (halfF ws).dropLast ++ (halfF ws.reverse).dropLast
def hull (vs : List Vec) : List Vec := hullW (srtV vs)
structure HullOf (vs : List Vec) (a : Vec) (r : List Vec) (an : Vec) (rn : List Vec) : Prop where
  lo : LoH (· ∈ vs) a r
  up : LoH (nP (· ∈ vs)) an rn
  is : hull vs = if r = [] then [a] else (a :: r).dropLast ++ ((an :: rn).map ng).dropLast
end DL
end
section
set_option maxHeartbeats 4000000
namespace DL
theorem Sup.trans {P Q R : Vec → Prop} (h : Sup P Q) (g : Sup Q R) : Sup P R := fun q hq p => by
  obtain ⟨x, hx, l⟩ := g q hq p
  obtain ⟨y, hy, l2⟩ := h x hx p
  exact ⟨y, hy, Int.le_trans l l2⟩
theorem lo_last {P : Vec → Prop} : ∀ (r : List Vec) (a : Vec), P a → Lo P a r → P ((a :: r).getLast (by simp)) ∧ ∀ p, P p → p = (a :: r).getLast (by simp) ∨ vLt p ((a :: r).getLast (by simp))
  | [], a, pa, h => ⟨pa, h⟩
  | b :: r, a, pa, h => by
    rw [List.getLast_cons (by simp)]
    exact lo_last r b h.1 h.2.2.2.2
theorem max_uniq {P : Vec → Prop} {y z : Vec} (py : P y) (pz : P z) (my : ∀ p, P p → p = y ∨ vLt p y) (mz : ∀ p, P p → p = z ∨ vLt p z) : y = z := by
  rcases mz y py with e | e
  · exact e
  · rcases my z pz with e' | e'
    · exact e'.symm
    · exact (vLt_as e e').elim
theorem chain_end {P : Vec → Prop} {a an : Vec} {r rn : List Vec} (h : LoH P a r) (n : LoH (nP P) an rn) : (a :: r).getLast (by simp) = ng an := by
  obtain ⟨l1, l2⟩ := lo_last r a h.at_ h.lo
  refine max_uniq (P := P) l1 n.at_ l2 fun p hp => ?_
  rcases n.min (ng p) (show P (ng (ng p)) by rw [ng_ng]; exact hp) with e | e
  · exact .inl (by rw [← e, ng_ng])
  · exact .inr (by rw [← ng_lt, ng_ng]; exact e)
theorem chain_end' {P : Vec → Prop} {a an : Vec} {r rn : List Vec} (h : LoH P a r) (n : LoH (nP P) an rn) : (an :: rn).getLast (by simp) = ng a := chain_end n (by rw [nP_nP]; exact h)
theorem one_one {P : Vec → Prop} {a an : Vec} {r rn : List Vec} (h : LoH P a r) (n : LoH (nP P) an rn) (e : r = []) : rn = [] := by
  subst e
  have e1 : a = ng an := chain_end h n
  cases rn with
  | nil => rfl
  | cons b rn =>
    have p1 : P (ng b) := n.lo.1
    have e2 : ng b = a := by
      rcases h.min _ p1 with z | z
      · exact z
      · rcases h.lo _ p1 with y | y
        · exact y
        · exact (vLt_as z y).elim
    have l := n.lo.2.1
    rw [← ng_ng b, e2, e1, ng_ng] at l
    exact (vLt_irr l).elim
theorem mem_dropLast {x : Vec} {l : List Vec} (ne : l ≠ []) : x ∈ l ↔ x ∈ l.dropLast ∨ x = l.getLast ne := by
  conv => lhs; rw [← List.dropLast_concat_getLast ne]
  rw [List.mem_append, List.mem_singleton]
section
variable {vs : List Vec} {a an : Vec} {r rn : List Vec}
theorem HullOf.mem (h : HullOf vs a r an rn) (v : Vec) : v ∈ hull vs ↔ v ∈ a :: r ∨ ng v ∈ an :: rn := by
  have e1 := chain_end h.lo h.up
  have e2 := chain_end' h.lo h.up
  rw [h.is]
  by_cases hr : r = []
  · have hn := one_one h.lo h.up hr
    rw [if_pos hr]
    subst hr hn
    have e1 : a = ng an := e1
    rw [List.mem_singleton, List.mem_singleton, e1]
    refine ⟨.inl, fun z => z.elim id fun z => ?_⟩
    rw [← z, ng_ng]
  · rw [if_neg hr, List.mem_append]
    have hn : rn ≠ [] := fun e => hr (one_one h.up (by rw [nP_nP]; exact h.lo) e)
    have m1 := mem_dropLast (x := v) (l := a :: r) (by simp)
    have m2 := mem_dropLast (x := ng v) (l := an :: rn) (by simp)
    have m3 : v ∈ ((an :: rn).map ng).dropLast ↔ ng v ∈ (an :: rn).dropLast := by
      rw [← List.map_dropLast]
      constructor
      · intro z
        obtain ⟨y, hy, rfl⟩ := List.mem_map.mp z
        rw [ng_ng]; exact hy
      · intro z
        exact List.mem_map.mpr ⟨_, z, ng_ng v⟩
    rw [m3, m1, m2, e1, e2]
    have a1 : a ∈ (a :: r).dropLast := by
      cases r with
      | nil => exact absurd rfl hr
      | cons b r => simp
    have a2 : an ∈ (an :: rn).dropLast := by
      cases rn with
      | nil => exact absurd rfl hn
      | cons b r => simp
    constructor
    · rintro (z | z)
      · exact .inl (.inl z)
      · exact .inr (.inl z)
    · rintro ((z | z) | (z | z))
      · exact .inl z
      · rw [z, ng_ng]; exact .inr a2
      · exact .inr z
      · rw [ng_inj z]; exact .inl a1
theorem HullOf.max (h : HullOf vs a r an rn) (p : Vec) : ∃ v ∈ hull vs, ∀ q ∈ vs, crs q p ≤ crs v p := by
  by_cases z : lp p
  · obtain ⟨v, m, _, l⟩ := h.lo.max z
    exact ⟨v, (h.mem v).mpr (.inl m), l⟩
  · by_cases z2 : lp (ng p)
    · obtain ⟨v, m, _, l⟩ := h.up.max z2
      refine ⟨ng v, (h.mem _).mpr (.inr (by rw [ng_ng]; exact m)), fun q hq => ?_⟩
      have := l (ng q) (show ng (ng q) ∈ vs by rw [ng_ng]; exact hq)
      rw [crs_ng] at this
      rw [crs_ng1, ← crs_ng2]
      exact this
    · have e : p = (0, 0) := by
        obtain ⟨x, y⟩ := p
        unfold lp ng at z2
        unfold lp at z
        dsimp only at z z2
        rw [Prod.mk.injEq]
        omega
      refine ⟨a, (h.mem a).mpr (.inl List.mem_cons_self), fun q hq => ?_⟩
      rw [e, crs_zero, crs_zero]
      exact Int.le_refl 0
end
end DL
end
section
namespace DL
end DL
end
section
namespace DL
end DL
end
section
namespace DL
end DL
end
section
set_option maxRecDepth 100000
set_option maxHeartbeats 4000000
set_option exponentiation.threshold 100000
namespace DL
open PySem L2
local macro_rules | `(tactic| l_ints) => `(tactic| first | (assumption) | (apply Bd.neg; l_ints) | (apply Bd.mul <;> l_ints) | (exact bd40 (by omega) (by omega)) | (apply Bd.add <;> l_ints) | (apply Bd.sub <;> l_ints) | (exact bd130 (by omega) (by omega)) | (exact bd210 (by omega) (by omega)) | (exact bd_self _) | fail)
end DL
end
section
set_option maxHeartbeats 4000000
namespace DL
instance (u : Vec) : Decidable (lp u) := inferInstanceAs (Decidable (_ ∨ _))
end DL
end
section
set_option maxHeartbeats 4000000
namespace DL
section
variable {vs : List Vec} {a an : Vec} {r rn : List Vec}
end
end DL
end
section
set_option maxHeartbeats 4000000
namespace DL
section
variable {vs : List Vec} {a an : Vec} {r rn : List Vec}
end
structure Within (vs : List Vec) (x y b : Int) : Prop where
  pos : 0 < b
  le : ∀ (p : Vec) (m : Int), (∀ u ∈ vs, crs u p ≤ m) → crs (x, y) p ≤ m * b
theorem Within.dot {vs : List Vec} {x y b : Int} (h : Within vs x y b) (d : Vec) (m : Int) (g : ∀ u ∈ vs, dot d u ≤ m) : dot d (x, y) ≤ m * b := by
  rw [dot_crs]
  exact h.le _ m fun u hu => by rw [← dot_crs]; exact g u hu
end DL
end
section
set_option maxHeartbeats 4000000
namespace DL
section
variable {vs : List Vec} (ne : vs ≠ [])
include ne
end
end DL
end
section
namespace DL
end DL
end
section
namespace DL
end DL
end
section
namespace DL
end DL
end
section
namespace DL
end DL
end
section
namespace DL
end DL
end
section
set_option maxRecDepth 100000
set_option maxHeartbeats 4000000
set_option exponentiation.threshold 100000
namespace DL
open PySem L2
local macro_rules | `(tactic| l_ints) => `(tactic| first | (assumption) | (apply Bd.neg; l_ints) | (apply Bd.mul <;> l_ints) | (exact bd40 (by omega) (by omega)) | (apply Bd.add <;> l_ints) | (apply Bd.sub <;> l_ints) | (exact bd130 (by omega) (by omega)) | (exact bd210 (by omega) (by omega)) | (exact bd_self _) | fail)
end DL
end
section
namespace DL
def m_shared_measure : Ss := (.cons (.set 1 (.int 0)) (.cons (.for_ (.nm 2) (.ex (.v 0)) (.cons (.set 3 (.bi .abs (.cons (.v 2) .nil))) (.cons (.whl (.cmp .Gt (.v 3) (.int 0)) (.cons (.par2 1 3 (.v 3) (.bin .Mod (.v 1) (.v 3))) .nil)) .nil))) (.cons (.ret (.v 1)) .nil)))
end DL
end
section
namespace DL
def m_place_lowest : Ss := (.cons (.set 3 (.call 18 (.cons (.lst (.cons (.v 0) (.cons (.v 1) (.cons (.v 2) .nil)))) .nil))) (.cons (.ret (.tup (.cons (.bin .FloorDiv (.v 0) (.v 3)) (.cons (.bin .FloorDiv (.v 1) (.v 3)) (.cons (.bin .FloorDiv (.v 2) (.v 3)) .nil))))) .nil))
end DL
end
section
namespace DL
def m_place_of : Ss := (.cons (.ret (.call 19 (.cons (.bin .Mult (.ix (.v 0) (.int 0)) (.ix (.v 1) (.int 1))) (.cons (.bin .Mult (.ix (.v 1) (.int 0)) (.ix (.v 0) (.int 1))) (.cons (.bin .Mult (.ix (.v 0) (.int 1)) (.ix (.v 1) (.int 1))) .nil))))) .nil)
end DL
end
section
namespace DL
end DL
end
section
namespace DL
end DL
end
section
namespace DL
def m_place_added : Ss := (.cons (.set 2 (.bin .Add (.bin .Mult (.ix (.v 0) (.int 0)) (.ix (.v 1) (.int 2))) (.bin .Mult (.ix (.v 1) (.int 0)) (.ix (.v 0) (.int 2))))) (.cons (.set 3 (.bin .Add (.bin .Mult (.ix (.v 0) (.int 1)) (.ix (.v 1) (.int 2))) (.bin .Mult (.ix (.v 1) (.int 1)) (.ix (.v 0) (.int 2))))) (.cons (.ret (.call 19 (.cons (.v 2) (.cons (.v 3) (.cons (.bin .Mult (.ix (.v 0) (.int 2)) (.ix (.v 1) (.int 2))) .nil))))) .nil)))
end DL
end
section
namespace DL
end DL
end
section
namespace DL
end DL
end
section
namespace DL
end DL
end
section
set_option maxRecDepth 100000
set_option maxHeartbeats 4000000
set_option exponentiation.threshold 100000
namespace DL
open PySem L2
local macro_rules | `(tactic| l_ints) => `(tactic| first | (assumption) | (apply Bd.neg; l_ints) | (apply Bd.mul <;> l_ints) | (exact bd40 (by omega) (by omega)) | (apply Bd.add <;> l_ints) | (apply Bd.sub <;> l_ints) | (exact bd130 (by omega) (by omega)) | (exact bd210 (by omega) (by omega)) | (exact bd_self _) | fail)
abbrev Tri := Int × Int × Int
def pD (p : Tri) : D := .tuple [.int p.1, .int p.2.1, .int p.2.2]
def gcd3 (x y b : Int) : Nat := Int.gcd (Int.gcd x y) b
def plow (x y b : Int) : Tri := (x / gcd3 x y b, y / gcd3 x y b, b / gcd3 x y b)
def plc (e n : Rat) : Tri := plow (e.num * n.den) (n.num * e.den) (e.den * n.den)
def PD (e n : Rat) : D := pD (plc e n)
theorem gcd3_pos {x y b : Int} (hb : b ≠ 0) : 0 < gcd3 x y b := Int.gcd_pos_of_ne_zero_right _ hb
theorem gcd3_x {x y b : Int} : (gcd3 x y b : Int) ∣ x := Int.dvd_trans (Int.gcd_dvd_left ..) (Int.gcd_dvd_left ..)
theorem gcd3_y {x y b : Int} : (gcd3 x y b : Int) ∣ y := Int.dvd_trans (Int.gcd_dvd_left ..) (Int.gcd_dvd_right ..)
theorem gcd3_b {x y b : Int} : (gcd3 x y b : Int) ∣ b := Int.gcd_dvd_right ..
theorem gcd3_mul (x y b k : Int) : gcd3 (x * k) (y * k) (b * k) = gcd3 x y b * k.natAbs := by
  unfold gcd3
  rw [Int.gcd_mul_right]
  have : ((Int.gcd x y * k.natAbs : Nat) : Int).natAbs = ((Int.gcd x y : Int) * k).natAbs := by
    rw [Int.natAbs_mul]
    simp [Int.natAbs_mul]
  unfold Int.gcd at *
  rw [this, Int.natAbs_mul, Int.natAbs_mul, Nat.gcd_mul_right]
theorem dvd_gcd3 {d x y b : Int} (h1 : d ∣ x) (h2 : d ∣ y) (h3 : d ∣ b) : d ∣ (gcd3 x y b : Int) := Int.dvd_coe_gcd (Int.dvd_coe_gcd h1 h2) h3
structure PNorm (p : Tri) : Prop where
  pos : 0 < p.2.2
  one : gcd3 p.1 p.2.1 p.2.2 = 1
theorem plow_norm {x y b : Int} (hb : 0 < b) : PNorm (plow x y b) ∧ (plow x y b).1 * b = x * (plow x y b).2.2 ∧ (plow x y b).2.1 * b = y * (plow x y b).2.2 := by
  have g := gcd3_pos (x := x) (y := y) (show b ≠ 0 by omega)
  obtain ⟨u, hu⟩ := gcd3_x (x := x) (y := y) (b := b)
  obtain ⟨v, hv⟩ := gcd3_y (x := x) (y := y) (b := b)
  obtain ⟨w, hw⟩ := gcd3_b (x := x) (y := y) (b := b)
  generalize hG : gcd3 x y b = k at *
  have k0 : (k : Int) ≠ 0 := by omega
  have e1 : x / (k : Int) = u := by rw [hu, Int.mul_ediv_cancel_left _ k0]
  have e2 : y / (k : Int) = v := by rw [hv, Int.mul_ediv_cancel_left _ k0]
  have e3 : b / (k : Int) = w := by rw [hw, Int.mul_ediv_cancel_left _ k0]
  have e : plow x y b = (u, v, w) := by unfold plow; rw [hG, e1, e2, e3]
  rw [e]
  refine ⟨⟨?_, ?_⟩, ?_, ?_⟩
  · show 0 < w
    rcases Int.lt_trichotomy w 0 with h | h | h
    · have := Int.mul_neg_of_pos_of_neg (show (0 : Int) < k by omega) h
      omega
    · subst h; simp at hw; omega
    · exact h
  · show gcd3 u v w = 1
    have h := gcd3_mul u v w k
    rw [Int.mul_comm u, Int.mul_comm v, Int.mul_comm w, ← hu, ← hv, ← hw, hG] at h
    have h2 : k * 1 = k * gcd3 u v w := by rw [Nat.mul_one, Nat.mul_comm]; simpa using h
    exact (Nat.eq_of_mul_eq_mul_left g h2).symm
  · show u * b = x * w
    grind
  · show v * b = y * w
    grind
theorem norm_dvd {p q : Tri} (hp : PNorm p) (h1 : p.1 * q.2.2 = q.1 * p.2.2) (h2 : p.2.1 * q.2.2 = q.2.1 * p.2.2) : p.2.2 ∣ q.2.2 := by
  have d1 : p.2.2 ∣ p.1 * q.2.2 := ⟨q.1, by rw [h1, Int.mul_comm]⟩
  have d2 : p.2.2 ∣ p.2.1 * q.2.2 := ⟨q.2.1, by rw [h2, Int.mul_comm]⟩
  have d3 : p.2.2 ∣ p.2.2 * q.2.2 := ⟨_, rfl⟩
  have d := dvd_gcd3 d1 d2 d3
  rw [gcd3_mul, hp.one, Nat.one_mul] at d
  exact Int.dvd_natAbs.mp d
theorem norm_uniq {p q : Tri} (hp : PNorm p) (hq : PNorm q) (h1 : p.1 * q.2.2 = q.1 * p.2.2) (h2 : p.2.1 * q.2.2 = q.2.1 * p.2.2) : p = q := by
  have a := Int.le_of_dvd hq.pos (norm_dvd hp h1 h2)
  have b := Int.le_of_dvd hp.pos (norm_dvd hq h1.symm h2.symm)
  have e : p.2.2 = q.2.2 := Int.le_antisymm a b
  have n : q.2.2 ≠ 0 := by have := hq.pos; omega
  rw [e] at h1 h2
  obtain ⟨p1, p2, p3⟩ := p
  obtain ⟨q1, q2, q3⟩ := q
  simp only at e h1 h2 n
  rw [Int.mul_eq_mul_right_iff n] at h1 h2
  rw [h1, h2, e]
theorem plc_norm (e n : Rat) : PNorm (plc e n) ∧ (plc e n).1 * e.den = e.num * (plc e n).2.2 ∧ (plc e n).2.1 * n.den = n.num * (plc e n).2.2 := by
  have he := e.den_pos
  have hn := n.den_pos
  have hb : (0 : Int) < (e.den : Int) * n.den := Int.mul_pos (by omega) (by omega)
  obtain ⟨a, b, c⟩ := plow_norm (x := e.num * n.den) (y := n.num * e.den) hb
  refine ⟨a, ?_, ?_⟩
  · refine (Int.mul_eq_mul_right_iff (show (n.den : Int) ≠ 0 by omega)).mp ?_
    show (plow _ _ _).1 * e.den * n.den = e.num * (plow _ _ _).2.2 * n.den
    grind
  · refine (Int.mul_eq_mul_right_iff (show (e.den : Int) ≠ 0 by omega)).mp ?_
    show (plow _ _ _).2.1 * n.den * e.den = n.num * (plow _ _ _).2.2 * e.den
    grind
theorem plow_eq {x y b : Int} (hb : 0 < b) : plow x y b = plc (Rat.divInt x b) (Rat.divInt y b) := by
  obtain ⟨a1, a2, a3⟩ := plow_norm (x := x) (y := y) hb
  obtain ⟨b1, b2, b3⟩ := plc_norm (Rat.divInt x b) (Rat.divInt y b)
  have hb0 : b ≠ 0 := by omega
  have c1 := (Rat.divInt_eq_divInt_iff (den_ne (Rat.divInt x b)) hb0).mp (Rat.num_divInt_den (Rat.divInt x b))
  have c2 := (Rat.divInt_eq_divInt_iff (den_ne (Rat.divInt y b)) hb0).mp (Rat.num_divInt_den (Rat.divInt y b))
  have d1 := den_ne (Rat.divInt x b)
  have d2 := den_ne (Rat.divInt y b)
  generalize Rat.divInt x b = e at *
  generalize Rat.divInt y b = n at *
  generalize plow x y b = p at *
  generalize plc e n = q at *
  refine norm_uniq a1 b1 ?_ ?_
  · refine (Int.mul_eq_mul_right_iff (Int.mul_ne_zero hb0 d1)).mp ?_
    grind
  · refine (Int.mul_eq_mul_right_iff (Int.mul_ne_zero hb0 d2)).mp ?_
    grind
theorem plc_e (e n : Rat) : Rat.divInt (plc e n).1 (plc e n).2.2 = e ∧ Rat.divInt (plc e n).2.1 (plc e n).2.2 = n := by
  obtain ⟨b1, b2, b3⟩ := plc_norm e n
  have h := b1.pos
  constructor
  · exact ((Rat.divInt_eq_divInt_iff (show (plc e n).2.2 ≠ 0 by omega) (den_ne e)).mpr b2).trans (Rat.num_divInt_den e)
  · exact ((Rat.divInt_eq_divInt_iff (show (plc e n).2.2 ≠ 0 by omega) (den_ne n)).mpr b3).trans (Rat.num_divInt_den n)
def PB (k : Nat) (e n : Rat) : Prop := Bd k (plc e n).1 ∧ Bd k (plc e n).2.1 ∧ Bd k (plc e n).2.2
theorem PB.mono {m k : Nat} {e n : Rat} (h : PB m e n) (l : m ≤ k) : PB k e n := ⟨h.1.mono l, h.2.1.mono l, h.2.2.mono l⟩
theorem ediv_bd {k : Nat} {x : Int} (g : Nat) (h : Bd k x) : Bd k (x / g) := by
  exact h.le (Int.natAbs_ediv_le_natAbs x g)
theorem plow_bd {k : Nat} {x y b : Int} (h1 : Bd k x) (h2 : Bd k y) (h3 : Bd k b) : Bd k (plow x y b).1 ∧ Bd k (plow x y b).2.1 ∧ Bd k (plow x y b).2.2 := ⟨ediv_bd _ h1, ediv_bd _ h2, ediv_bd _ h3⟩
theorem PB.of {m k : Nat} {e n : Rat} (h : RB m e) (g : RB k n) : PB (m + k) e n := plow_bd (h.1.mul g.2) ((g.1.mul h.2).mono (by omega)) (h.2.mul g.2)
theorem PB.low {k : Nat} {x y b : Int} (hb : 0 < b) (h1 : Bd k x) (h2 : Bd k y) (h3 : Bd k b) : PB k (Rat.divInt x b) (Rat.divInt y b) := by
  unfold PB
  rw [← plow_eq hb]
  exact plow_bd h1 h2 h3
def sp_shared_measure : DSp := fun ds Q X => ∃ x y b : Int, ds = [.list [.int x, .int y, .int b]] ∧ Q (.d (.int (gcd3 x y b)))
theorem p_shared_measure {G : Nat → DSp} : FnW G 4 1 m_shared_measure sp_shared_measure := by
  intro ds Q X ⟨x, y, b, e, q⟩
  subst e
  refine ⟨rfl, ?_⟩
  ((conv => whnf); repeat' (first | (refine wIf_tt ?_; conv => whnf) | (refine wIf_ff ?_; conv => whnf) | (refine wIf.mk (fun hif => (have hif := of_decide_eq_true hif; ?_)) (fun hif => (have hif := of_decide_eq_false hif; ?_)) <;> (conv => whnf)) | (refine wIf_not ?_) | (refine ⟨(by decide : (_ : Int) ≠ 0), fun w _ hw => ?_⟩; replace hw := hw (by decide); conv => whnf) | (refine ⟨(by decide : (_ : Int) ≠ 0), div_lit (by decide), fun w _ hw => ?_⟩; replace hw := hw (by decide); conv => whnf) | (refine eq_rD ?_; conv => whnf) | (refine eq_ts ?_; conv => whnf) | (refine ne_ts ?_; conv => whnf) | (refine ne_rD ?_; conv => whnf) | (refine eq_vD ?_; conv => whnf) | (refine ne_vD ?_; conv => whnf) | (refine ⟨isi_ok rfl, ?_⟩; conv => whnf) | (apply wMulS.mk; (first | exact mul_l (by decide) (by decide) | exact mul_r (by decide) (by decide) | exact mul_ok (by l_ints) (by l_ints) (by decide)); conv => whnf) | (refine ⟨⟨by decide, by decide, by decide⟩, ?_⟩; conv => whnf) | (refine ⟨⟨by decide, by decide, by omega⟩, ?_⟩; conv => whnf) | (refine ⟨small_sz (Nat.le_of_ble_eq_true rfl), ?_⟩; conv => whnf) | fail))
  refine ⟨rfl, ?_⟩
  refine forLoop_ind (fun ds ρ => ∃ (zs : List Int) (f : Nat) (u v : Option R), ds = zs.map .int ∧ ρ = [some (.d (.list [.int x, .int y, .int b])), some (.d (.int f)), u, v] ∧ zs.foldl (fun (a : Nat) z => Int.gcd (a : Int) z) f = gcd3 x y b) ?_ ?_ _ _ ⟨[x, y, b], 0, none, none, rfl, rfl, ?_⟩
  · rintro ρ ⟨zs, f, u, v, e1, rfl, e2⟩
    have : zs = [] := by simpa using e1.symm
    subst this
    have e2 : f = gcd3 x y b := e2
    subst e2
    conv => whnf
    exact q
  · rintro d ds ρ ⟨zs, f, u, v, e1, rfl, e2⟩ nx hnx
    cases zs with
    | nil => cases e1
    | cons z zs =>
      cases e1
      conv => whnf
      refine ⟨fun n ρ => ∃ a c : Nat, ρ = [some (.d (.list [.int x, .int y, .int b])), some (.d (.int a)), some (.d (.int z)), some (.d (.int c))] ∧ n = c ∧ Nat.gcd a c = Int.gcd (f : Int) z, ⟨_, f, z.natAbs, ?_, rfl, ?_⟩, ?_⟩
      · rw [abs_if] <;> rfl
      · simp [Int.gcd]
      rintro n ρ ⟨a, c, rfl, rfl, hg⟩
      conv => whnf
      refine wIf.mk (fun h => ?_) (fun h => ?_)
      · have h : (0 : Int) < n := of_decide_eq_true h
        conv => whnf
        refine ⟨by omega, fun w _ hw => ?_⟩
        have hw := hw h
        have e3 : w = ((a % n : Nat) : Int) := by rw [hw]; simp
        subst e3
        conv => whnf
        have hl := Nat.mod_lt a (show 0 < n by omega)
        refine ⟨_, hl, n, a % n, rfl, rfl, ?_⟩
        rw [← hg, Nat.gcd_comm n, ← Nat.gcd_rec, Nat.gcd_comm]
      · have h : ¬ (0 : Int) < n := of_decide_eq_false h
        have h0 : n = 0 := by omega
        subst h0
        refine hnx _ ⟨zs, a, _, _, rfl, rfl, ?_⟩
        rw [← e2]
        simp only [List.foldl_cons]
        rw [← hg]
        simp
  · simp [gcd3, Int.gcd]
def sp_place_lowest : DSp := fun ds Q X => ∃ x y b : Int, ds = [.int x, .int y, .int b] ∧ Bd 8999 b ∧ 0 < b ∧ Q (.d (PD (Rat.divInt x b) (Rat.divInt y b)))
theorem p_place_lowest {G : Nat → DSp} (g18 : G 18 = sp_shared_measure) : FnW G 4 3 m_place_lowest sp_place_lowest := by
  intro ds Q X ⟨x, y, b, e, hb, h0, q⟩
  subst e
  refine ⟨rfl, ?_⟩
  ((conv => whnf); repeat' (first | (refine wIf_tt ?_; conv => whnf) | (refine wIf_ff ?_; conv => whnf) | (refine wIf.mk (fun hif => (have hif := of_decide_eq_true hif; ?_)) (fun hif => (have hif := of_decide_eq_false hif; ?_)) <;> (conv => whnf)) | (refine wIf_not ?_) | (refine ⟨(by decide : (_ : Int) ≠ 0), fun w _ hw => ?_⟩; replace hw := hw (by decide); conv => whnf) | (refine ⟨(by decide : (_ : Int) ≠ 0), div_lit (by decide), fun w _ hw => ?_⟩; replace hw := hw (by decide); conv => whnf) | (refine eq_rD ?_; conv => whnf) | (refine eq_ts ?_; conv => whnf) | (refine ne_ts ?_; conv => whnf) | (refine ne_rD ?_; conv => whnf) | (refine eq_vD ?_; conv => whnf) | (refine ne_vD ?_; conv => whnf) | (refine ⟨isi_ok rfl, ?_⟩; conv => whnf) | (apply wMulS.mk; (first | exact mul_l (by decide) (by decide) | exact mul_r (by decide) (by decide) | exact mul_ok (by l_ints) (by l_ints) (by decide)); conv => whnf) | (refine ⟨⟨by decide, by decide, by decide⟩, ?_⟩; conv => whnf) | (refine ⟨⟨by decide, by decide, by omega⟩, ?_⟩; conv => whnf) | (refine ⟨small_sz (Nat.le_of_ble_eq_true rfl), ?_⟩; conv => whnf) | fail))
  rw [g18]
  refine ⟨_, _, _, rfl, ?_⟩
  have gp := gcd3_pos (x := x) (y := y) (show b ≠ 0 by omega)
  have gb : Bd 8999 (gcd3 x y b : Int) := hb.le (by have := Int.le_of_dvd h0 (gcd3_b (x := x) (y := y) (b := b)); omega)
  have gn : (gcd3 x y b : Int) ≠ 0 := by omega
  have gd := fun z => div_ok (x := z) gb (by decide)
  conv => whnf
  refine ⟨gn, gd _, fun u _ hu => ?_⟩
  have hu := hu (by omega)
  conv => whnf
  refine ⟨gn, gd _, fun v _ hv => ?_⟩
  have hv := hv (by omega)
  conv => whnf
  refine ⟨gn, gd _, fun w _ hw => ?_⟩
  have hw := hw (by omega)
  ((conv => whnf); repeat' (first | (refine wIf_tt ?_; conv => whnf) | (refine wIf_ff ?_; conv => whnf) | (refine wIf.mk (fun hif => (have hif := of_decide_eq_true hif; ?_)) (fun hif => (have hif := of_decide_eq_false hif; ?_)) <;> (conv => whnf)) | (refine wIf_not ?_) | (refine ⟨(by decide : (_ : Int) ≠ 0), fun w _ hw => ?_⟩; replace hw := hw (by decide); conv => whnf) | (refine ⟨(by decide : (_ : Int) ≠ 0), div_lit (by decide), fun w _ hw => ?_⟩; replace hw := hw (by decide); conv => whnf) | (refine eq_rD ?_; conv => whnf) | (refine eq_ts ?_; conv => whnf) | (refine ne_ts ?_; conv => whnf) | (refine ne_rD ?_; conv => whnf) | (refine eq_vD ?_; conv => whnf) | (refine ne_vD ?_; conv => whnf) | (refine ⟨isi_ok rfl, ?_⟩; conv => whnf) | (apply wMulS.mk; (first | exact mul_l (by decide) (by decide) | exact mul_r (by decide) (by decide) | exact mul_ok (by l_ints) (by l_ints) (by decide)); conv => whnf) | (refine ⟨⟨by decide, by decide, by decide⟩, ?_⟩; conv => whnf) | (refine ⟨⟨by decide, by decide, by omega⟩, ?_⟩; conv => whnf) | (refine ⟨small_sz (Nat.le_of_ble_eq_true rfl), ?_⟩; conv => whnf) | fail))
  subst hu hv hw
  have := plow_eq (x := x) (y := y) h0
  unfold PD pD at q
  rw [← this] at q
  exact q
def sp_place_of : DSp := fun ds Q X => ∃ (e n : Rat) (k m : Nat), ds = [rD e, rD n] ∧ RB k e ∧ RB m n ∧ k + m ≤ 8990 ∧ Q (.d (PD e n))
def sp_place_added : DSp := fun ds Q X => ∃ (e n e' n' : Rat) (k m : Nat), ds = [PD e n, PD e' n'] ∧ PB k e n ∧ PB m e' n' ∧ k + m ≤ 8990 ∧ Q (.d (PD (e + e') (n + n')))
theorem p_place_of {G : Nat → DSp} (g19 : G 19 = sp_place_lowest) : FnW G 2 2 m_place_of sp_place_of := by
  intro ds Q X ⟨e, n, k, m, e0, he, hn, l, q⟩
  subst e0
  refine ⟨rfl, ?_⟩
  conv => whnf
  refine ⟨mul_ok he.1 hn.2 (by omega), ?_⟩
  conv => whnf
  refine ⟨mul_ok hn.1 he.2 (by omega), ?_⟩
  conv => whnf
  refine ⟨mul_ok he.2 hn.2 (by omega), ?_⟩
  conv => whnf
  have hd := e.den_pos
  have hd2 := n.den_pos
  have hp : (0 : Int) < (e.den : Int) * n.den := Int.mul_pos (by omega) (by omega)
  rw [g19]
  refine ⟨_, _, _, rfl, (he.2.mul hn.2).mono (by omega), hp, ?_⟩
  have e1 : Rat.divInt (e.num * n.den) (e.den * n.den) = e := by rw [Rat.divInt_mul_right (den_ne n), Rat.num_divInt_den]
  have e2 : Rat.divInt (n.num * e.den) (e.den * n.den) = n := by rw [Int.mul_comm (e.den : Int), Rat.divInt_mul_right (den_ne e), Rat.num_divInt_den]
  rw [e1, e2]
  exact q
theorem plc_pos (e n : Rat) : 0 < (plc e n).2.2 := (plc_norm e n).1.pos
def sp_pa (sg : Int) : DSp := fun ds Q X => ∃ (p p' : Tri) (k m : Nat), ds = [pD p, pD p'] ∧ 0 < p.2.2 ∧ 0 < p'.2.2 ∧ Bd k p.1 ∧ Bd k p.2.1 ∧ Bd k p.2.2 ∧ Bd m p'.1 ∧ Bd m p'.2.1 ∧ Bd m p'.2.2 ∧ k + m ≤ 8990 ∧
  Q (.d (PD (Rat.divInt p.1 p.2.2 + Rat.divInt p'.1 p'.2.2) (Rat.divInt p.2.1 p.2.2 + Rat.divInt p'.2.1 p'.2.2)))
theorem pa_core {G : Nat → DSp} (g19 : G 19 = sp_place_lowest) : FnW G 4 2 m_place_added (sp_pa 1) := by
  intro ds Q X ⟨p, p', k, m, e0, h1, h2, b1, b2, b3, c1, c2, c3, l, q⟩
  subst e0
  refine ⟨rfl, ?_⟩
  conv => whnf
  refine ⟨mul_ok b1 c3 (by omega), ?_⟩
  conv => whnf
  refine ⟨mul_ok c1 b3 (by omega), ?_⟩
  conv => whnf
  refine ⟨mul_ok b2 c3 (by omega), ?_⟩
  conv => whnf
  refine ⟨mul_ok c2 b3 (by omega), ?_⟩
  conv => whnf
  refine ⟨mul_ok b3 c3 (by omega), ?_⟩
  conv => whnf
  rw [g19]
  refine ⟨_, _, _, rfl, (b3.mul c3).mono (by omega), Int.mul_pos h1 h2, ?_⟩
  rw [Rat.divInt_add_divInt _ _ (by omega) (by omega), Rat.divInt_add_divInt _ _ (by omega) (by omega)] at q
  exact q
theorem p_place_added {G : Nat → DSp} (g19 : G 19 = sp_place_lowest) : FnW G 4 2 m_place_added sp_place_added := by
  intro ds Q X ⟨e, n, e', n', k, m, e0, h, h', l, q⟩
  refine pa_core g19 ds Q X ⟨plc e n, plc e' n', k, m, e0, plc_pos .., plc_pos .., h.1, h.2.1, h.2.2, h'.1, h'.2.1, h'.2.2, l, ?_⟩
  rw [(plc_e e n).1, (plc_e e n).2, (plc_e e' n').1, (plc_e e' n').2]
  exact q
theorem gcd3_neg (x y b : Int) : gcd3 (-x) (-y) b = gcd3 x y b := by simp [gcd3, Int.gcd]
theorem plc_neg (e n : Rat) : plc (-e) (-n) = (-(plc e n).1, -(plc e n).2.1, (plc e n).2.2) := by
  obtain ⟨a1, a2, a3⟩ := plc_norm e n
  obtain ⟨b1, b2, b3⟩ := plc_norm (-e) (-n)
  rw [Rat.neg_num, Rat.neg_den] at b2 b3
  have he := den_ne e
  have hn := den_ne n
  refine norm_uniq b1 ⟨a1.pos, by rw [gcd3_neg]; exact a1.one⟩ ?_ ?_
  · refine (Int.mul_eq_mul_right_iff he).mp ?_
    show (plc (-e) (-n)).1 * (plc e n).2.2 * e.den = -(plc e n).1 * (plc (-e) (-n)).2.2 * e.den
    generalize plc e n = p at *
    generalize plc (-e) (-n) = q at *
    grind
  · refine (Int.mul_eq_mul_right_iff hn).mp ?_
    show (plc (-e) (-n)).2.1 * (plc e n).2.2 * n.den = -(plc e n).2.1 * (plc (-e) (-n)).2.2 * n.den
    generalize plc e n = p at *
    generalize plc (-e) (-n) = q at *
    grind
theorem plc_int (a b : Int) : plc a b = (a, b, 1) := by
  unfold plc plow
  simp [gcd3]
theorem PB.add {k m : Nat} {e n e' n' : Rat} (h : PB k e n) (h' : PB m e' n') : PB (k + m + 1) (e + e') (n + n') := by
  have h1 := plc_pos e n
  have h2 := plc_pos e' n'
  have a := PB.low (Int.mul_pos h1 h2) (((h.1.mul h'.2.2).add (h'.1.mul h.2.2)).mono (show _ ≤ k + m + 1 by omega)) (((h.2.1.mul h'.2.2).add (h'.2.1.mul h.2.2)).mono (by omega)) ((h.2.2.mul h'.2.2).mono (by omega))
  rw [← Rat.divInt_add_divInt _ _ (by omega) (by omega), ← Rat.divInt_add_divInt _ _ (by omega) (by omega), (plc_e e n).1, (plc_e e n).2, (plc_e e' n').1, (plc_e e' n').2] at a
  exact a
theorem PB.neg {k : Nat} {e n : Rat} (h : PB k e n) : PB k (-e) (-n) := by
  unfold PB
  rw [plc_neg]
  exact ⟨h.1.neg, h.2.1.neg, h.2.2⟩
theorem PB.times {k m : Nat} {e n r : Rat} (h : PB k e n) (hr : RB m r) : PB (k + m) (e * r) (n * r) := by
  have h1 := plc_pos e n
  have h2 := r.den_pos
  have a := PB.low (Int.mul_pos h1 (show (0 : Int) < r.den by omega)) (h.1.mul hr.1) (h.2.1.mul hr.1) (h.2.2.mul hr.2)
  rw [← Rat.divInt_mul_divInt, ← Rat.divInt_mul_divInt, (plc_e e n).1, (plc_e e n).2, Rat.num_divInt_den] at a
  exact a
end DL
end
section
namespace DL
end DL
end
section
set_option maxRecDepth 100000
set_option maxHeartbeats 4000000
set_option exponentiation.threshold 100000
namespace DL
open PySem L2
local macro_rules | `(tactic| l_ints) => `(tactic| first | (assumption) | (apply Bd.neg; l_ints) | (apply Bd.mul <;> l_ints) | (exact bd40 (by omega) (by omega)) | (apply Bd.add <;> l_ints) | (apply Bd.sub <;> l_ints) | (exact bd130 (by omega) (by omega)) | (exact bd210 (by omega) (by omega)) | (exact bd_self _) | fail)
theorem rng_ind {st : D → En → (En → Prop) → Prop} {body : DE → En → Prop} {E : DE} (P : Nat → En → Prop) (n : Nat) (h0 : ∀ ρ, P n ρ → E.nx ρ)
    (h1 : ∀ i ρ, i < n → P i ρ → ∀ nx : En → Prop, (∀ ρ', P (i + 1) ρ' → nx ρ') → st (.int i) ρ fun ρ2 => body { E with nx := nx, bk := E.nx } ρ2) (ρ : En) (h : P 0 ρ) : forLoop st body E (rngD 0 n) ρ := by
  refine forLoop_ind (fun ds ρ => ∃ i, i ≤ n ∧ ds = (rngD 0 n).drop i ∧ P i ρ) ?_ ?_ _ _ ⟨0, by omega, rfl, h⟩
  · rintro ρ ⟨i, hi, e, p⟩
    have : n ≤ i := by
      have := congrArg List.length e
      rw [List.length_drop, rng_len] at this
      simp at this
      omega
    have : i = n := by omega
    subst this
    exact h0 ρ p
  · rintro d ds ρ ⟨i, hi, e, p⟩ nx hnx
    have hlt : i < n := by
      have := congrArg List.length e
      rw [List.length_drop, rng_len] at this
      simp at this
      omega
    have e2 : (rngD 0 n).drop i = (.int (i : Int)) :: (rngD 0 n).drop (i + 1) := by
      rw [List.drop_eq_getElem_cons (by rw [rng_len]; exact hlt)]
      congr 1
      unfold rngD
      simp
    rw [e2] at e
    cases e
    exact h1 i ρ hlt p nx fun ρ' p' => hnx ρ' ⟨i + 1, by omega, rfl, p'⟩
end DL
end
section
namespace DL
end DL
end
section
namespace DL
end DL
end
section
namespace DL
end DL
end
section
set_option maxRecDepth 100000
set_option maxHeartbeats 4000000
set_option exponentiation.threshold 100000
namespace DL
open PySem L2
local macro_rules | `(tactic| l_ints) => `(tactic| first | (assumption) | (apply Bd.neg; l_ints) | (apply Bd.mul <;> l_ints) | (exact bd40 (by omega) (by omega)) | (apply Bd.add <;> l_ints) | (apply Bd.sub <;> l_ints) | (exact bd130 (by omega) (by omega)) | (exact bd210 (by omega) (by omega)) | (exact bd_self _) | fail)
end DL
end
section
namespace DL
end DL
end
section
namespace DL
end DL
end
section
namespace DL
end DL
end
section
namespace DL
end DL
end
section
namespace DL
end DL
end
section
set_option maxRecDepth 100000
set_option maxHeartbeats 4000000
set_option exponentiation.threshold 100000
namespace DL
open PySem L2
local macro_rules | `(tactic| l_ints) => `(tactic| first | (assumption) | (apply Bd.neg; l_ints) | (apply Bd.mul <;> l_ints) | (exact bd40 (by omega) (by omega)) | (apply Bd.add <;> l_ints) | (apply Bd.sub <;> l_ints) | (exact bd130 (by omega) (by omega)) | (exact bd210 (by omega) (by omega)) | (exact bd_self _) | fail)
def half : Rat := ⟨1, 2, by decide, by decide⟩
end DL
end
section
namespace DL
end DL
end
section
namespace DL
end DL
end
section
namespace DL
end DL
end
section
namespace DL
end DL
end
section
namespace DL
end DL
end
section
namespace DL
end DL
end
section
set_option maxRecDepth 100000
set_option maxHeartbeats 4000000
set_option exponentiation.threshold 100000
namespace DL
open PySem L2
local macro_rules | `(tactic| l_ints) => `(tactic| first | (assumption) | (apply Bd.neg; l_ints) | (apply Bd.mul <;> l_ints) | (exact bd40 (by omega) (by omega)) | (apply Bd.add <;> l_ints) | (apply Bd.sub <;> l_ints) | (exact bd130 (by omega) (by omega)) | (exact bd210 (by omega) (by omega)) | (exact bd_self _) | fail)
theorem lc_each {α β : Type} {G : Nat → DSp} {t : Tg} {el : En → (R → Prop) → Prop} {ρ : En} {Q : R → Prop} (f : α → D) (g : β → D) (P : β → Prop) (xs : List α)
    (h1 : ∀ x ∈ xs, ∀ k : D → Prop, (∀ y, P y → k (g y)) → stT t (f x) ρ fun ρ2 => el ρ2 fun r => frzP r k)
    (h0 : ∀ ys : List β, ys.length = xs.length → (∀ y ∈ ys, P y) → Q (.l (ys.map g) true)) : lcLoop (stT t) (fun ρ2 k => wCond G .nil ρ2 k) el ρ (xs.map f) [] Q := by
  refine lc_ind (fun ds acc => ∃ zs ys, ds = zs.map f ∧ acc = ys.map g ∧ ys.length + zs.length = xs.length ∧ (∀ z ∈ zs, z ∈ xs) ∧ ∀ y ∈ ys, P y) ?_ ?_ _ _ ⟨xs, [], rfl, rfl, by simp, fun _ h => h, by simp⟩
  · rintro acc ⟨zs, ys, e1, e2, e3, e4, e5⟩
    have : zs = [] := by simpa using e1.symm
    subst this e2
    exact h0 ys (by simpa using e3) e5
  · rintro d ds acc ⟨zs, ys, e1, e2, e3, e4, e5⟩ k hk
    cases zs with
    | nil => cases e1
    | cons z zs =>
      cases e1
      subst e2
      refine stT_mono (fun ρ2 h => show wCond G .nil ρ2 _ from (show wIf true _ _ from wIf_tt h)) (h1 z (e4 z List.mem_cons_self) (fun y => k (ys.map g ++ [y])) fun y hy => ?_)
      refine hk _ ⟨zs, ys ++ [y], rfl, by simp, by simp at e3 ⊢; omega, fun u hu => e4 u (List.mem_cons_of_mem _ hu), fun u hu => ?_⟩
      rcases List.mem_append.mp hu with h | h
      · exact e5 u h
      · rw [List.mem_singleton.mp h]; exact hy
end DL
end
section
namespace DL
end DL
end
section
namespace DL
end DL
end
section
namespace DL
end DL
end
section
namespace DL
end DL
end
section
namespace DL
end DL
end
section
set_option maxRecDepth 100000
set_option maxHeartbeats 4000000
set_option exponentiation.threshold 100000
namespace DL
open PySem L2
local macro_rules | `(tactic| l_ints) => `(tactic| first | (assumption) | (apply Bd.neg; l_ints) | (apply Bd.mul <;> l_ints) | (exact bd40 (by omega) (by omega)) | (apply Bd.add <;> l_ints) | (apply Bd.sub <;> l_ints) | (exact bd130 (by omega) (by omega)) | (exact bd210 (by omega) (by omega)) | (exact bd_self _) | fail)
end DL
end
section
namespace DL
def m_law_cell_at : Ss := (.cons (.ifs (.cmp .Lt (.v 1) (.bi .len (.cons (.v 0) .nil))) (.cons (.ret (.ix (.v 0) (.v 1))) .nil) .nil) (.cons (.ret (.int 0)) .nil))
end DL
end
section
namespace DL
def m_law_draw : Ss := (.cons (.set 3 (.int 170141183460469231731687303715884105727)) (.cons (.set 4 (.bin .Mod (.bin .Mult (.bin .Add (.bin .Mod (.v 0) (.v 3)) (.bin .Mult (.bin .Add (.v 1) (.int 3)) (.int 1000000007))) (.int 105172331949523456789012345678901234567)) (.v 3))) (.cons (.set 4 (.bin .Mod (.bin .Mult (.v 4) (.v 4)) (.v 3))) (.cons (.ret (.bin .Mod (.bin .FloorDiv (.bin .Mod (.bin .Mult (.bin .Add (.v 4) (.v 1)) (.int 83492791123456789012345678901234567891)) (.v 3)) (.int 7)) (.v 2))) .nil))))
end DL
end
section
namespace DL
def m_law_vector_2 : Ss := (.cons (.ifs (.notN (.v 2)) (.cons (.set 3 (.bin .Sub (.call 43 (.cons (.v 0) (.cons (.int 2) (.cons (.int 7) .nil)))) (.int 3))) (.cons (.ret (.tup (.cons (.bin .Mult (.ix (.v 2) (.int 0)) (.v 3)) (.cons (.bin .Mult (.ix (.v 2) (.int 1)) (.v 3)) .nil)))) .nil)) .nil) (.cons (.ret (.tup (.cons (.bin .Sub (.call 43 (.cons (.v 0) (.cons (.int 2) (.cons (.bin .Add (.bin .Mult (.int 2) (.v 1)) (.int 1)) .nil)))) (.v 1)) (.cons (.bin .Sub (.call 43 (.cons (.v 0) (.cons (.int 3) (.cons (.bin .Add (.bin .Mult (.int 2) (.v 1)) (.int 1)) .nil)))) (.v 1)) .nil)))) .nil))
end DL
end
section
namespace DL
def m_law_free_vector : Ss := (.cons (.set 2 (.bin .Add (.bin .Mult (.int 2) (.v 1)) (.int 1))) (.cons (.ret (.tup (.cons (.bin .Sub (.bin .Mod (.v 0) (.v 2)) (.v 1)) (.cons (.bin .Sub (.bin .Mod (.bin .FloorDiv (.v 0) (.v 2)) (.v 2)) (.v 1)) .nil)))) .nil))
end DL
end
section
namespace DL
def m_law_free_watches : Ss := (.cons (.set 1 (.ix (.lst (.cons (.int 3) (.cons (.int 12) (.cons (.bin .Pow (.int 10) (.int 9)) .nil)))) (.bin .Mod (.bin .FloorDiv (.ix (.v 0) (.int 0)) (.int 2)) (.int 3)))) (.cons (.set 2 (.lst .nil)) (.cons (.set 3 (.int 1)) (.cons (.whl (.and (.cmp .Lt (.v 3) (.bi .min2 (.cons (.bi .len (.cons (.v 0) .nil)) (.cons (.int 61) .nil)))) (.cmp .Lt (.bi .len (.cons (.v 2) .nil)) (.int 12))) (.cons (.set 4 (.bin .Add (.int 1) (.bin .Mod (.ix (.v 0) (.v 3)) (.int 12)))) (.cons (.set 5 (.bin .FloorDiv (.ix (.v 0) (.v 3)) (.int 12))) (.cons (.set 6 (.lst (.cons (.call 45 (.cons (.v 5) (.cons (.v 1) .nil))) .nil))) (.cons (.ext 6 (.lc (.call 45 (.cons (.v 7) (.cons (.v 1) .nil))) (.nm 7) (.ex (.sl (.v 0) (.cons (.bin .Add (.v 3) (.int 1)) .nil) (.cons (.bi .min2 (.cons (.bin .Add (.v 3) (.v 4)) (.cons (.int 61) .nil))) .nil))) .nil [("cell", 7)])) (.cons (.frz 6) (.cons (.app 2 (.tup (.cons (.bi .tuple1 (.cons (.v 6) .nil)) (.cons (.call 45 (.cons (.bin .FloorDiv (.v 5) (.bin .Pow (.bin .Add (.bin .Mult (.int 2) (.v 1)) (.int 1)) (.int 2))) (.cons (.v 1) .nil))) .nil)))) (.cons (.set 3 (.bin .Add (.v 3) (.v 4))) .nil)))))))) (.cons (.frz 2) (.cons (.ret (.bi .tuple1 (.cons (.v 2) .nil))) .nil))))))
end DL
end
section
namespace DL
def m_law_watches : Ss := (.cons (.set 1 (.call 42 (.cons (.v 0) (.cons (.int 0) .nil)))) (.cons (.ifs (.cmp .Eq (.bin .Mod (.v 1) (.int 2)) (.int 1)) (.cons (.ret (.call 46 (.cons (.v 0) .nil))) .nil) .nil) (.cons (.set 2 (.ix (.lst (.cons (.int 3) (.cons (.int 3) (.cons (.int 12) (.cons (.bin .Pow (.int 10) (.int 9)) .nil))))) (.call 43 (.cons (.v 1) (.cons (.int 1) (.cons (.int 4) .nil)))))) (.cons (.set 3 .non) (.cons (.ifs (.cmp .Eq (.call 43 (.cons (.v 1) (.cons (.int 4) (.cons (.int 5) .nil)))) (.int 0)) (.cons (.set 3 (.tup (.cons (.bin .Sub (.call 43 (.cons (.v 1) (.cons (.int 5) (.cons (.int 7) .nil)))) (.int 3)) (.cons (.bin .Sub (.call 43 (.cons (.v 1) (.cons (.int 6) (.cons (.int 7) .nil)))) (.int 3)) .nil)))) .nil) .nil) (.cons (.set 4 (.ix (.lst (.cons (.int 3) (.cons (.int 3) (.cons (.int 5) (.cons (.int 12) .nil))))) (.call 43 (.cons (.v 1) (.cons (.int 8) (.cons (.int 4) .nil)))))) (.cons (.set 5 (.lst .nil)) (.cons (.set 6 (.int 1)) (.cons (.whl (.and (.cmp .Lt (.v 6) (.bi .min2 (.cons (.bi .len (.cons (.v 0) .nil)) (.cons (.int 61) .nil)))) (.cmp .Lt (.bi .len (.cons (.v 5) .nil)) (.int 12))) (.cons (.set 7 (.bin .Add (.int 1) (.call 43 (.cons (.ix (.v 0) (.v 6)) (.cons (.int 7) (.cons (.v 4) .nil)))))) (.cons (.set 8 (.lc (.call 44 (.cons (.v 9) (.cons (.v 2) (.cons (.v 3) .nil)))) (.nm 9) (.ex (.sl (.v 0) (.cons (.v 6) .nil) (.cons (.bi .min2 (.cons (.bin .Add (.v 6) (.v 7)) (.cons (.int 61) .nil))) .nil))) .nil [("cell", 9)])) (.cons (.frz 8) (.cons (.set 10 (.tup (.cons (.int 0) (.cons (.int 0) .nil)))) (.cons (.ifs (.cmp .Eq (.call 43 (.cons (.ix (.v 0) (.v 6)) (.cons (.int 9) (.cons (.int 2) .nil)))) (.int 1)) (.cons (.set 10 (.call 44 (.cons (.bin .Add (.ix (.v 0) (.v 6)) (.int 1)) (.cons (.v 2) (.cons (.v 3) .nil))))) .nil) .nil) (.cons (.app 5 (.tup (.cons (.bi .tuple1 (.cons (.v 8) .nil)) (.cons (.v 10) .nil)))) (.cons (.set 6 (.bin .Add (.v 6) (.v 7))) .nil)))))))) (.cons (.frz 5) (.cons (.ret (.bi .tuple1 (.cons (.v 5) .nil))) .nil)))))))))))
end DL
end
section
set_option maxRecDepth 100000
set_option maxHeartbeats 4000000
set_option exponentiation.threshold 100000
namespace DL
open PySem L2
local macro_rules | `(tactic| l_ints) => `(tactic| first | (assumption) | (apply Bd.neg; l_ints) | (apply Bd.mul <;> l_ints) | (exact bd40 (by omega) (by omega)) | (apply Bd.add <;> l_ints) | (apply Bd.sub <;> l_ints) | (exact bd130 (by omega) (by omega)) | (exact bd210 (by omega) (by omega)) | (exact bd_self _) | fail)
def sp_law_cell_at : DSp := fun ds Q X => ∃ (ns : List Int) (k : Nat), ds = [.list (ns.map .int), .int k] ∧ ∀ c : Int, (k < ns.length ∨ c = 0) → Q (.d (.int c))
theorem p_law_cell_at {G : Nat → DSp} : FnW G 2 2 m_law_cell_at sp_law_cell_at := by
  intro ds Q X ⟨ns, k, e, q⟩
  subst e
  refine ⟨rfl, ?_⟩
  ((conv => whnf); repeat' (first | (refine wIf_tt ?_; conv => whnf) | (refine wIf_ff ?_; conv => whnf) | (refine wIf.mk (fun hif => (have hif := of_decide_eq_true hif; ?_)) (fun hif => (have hif := of_decide_eq_false hif; ?_)) <;> (conv => whnf)) | (refine wIf_not ?_) | (refine ⟨(by decide : (_ : Int) ≠ 0), fun w _ hw => ?_⟩; replace hw := hw (by decide); conv => whnf) | (refine ⟨(by decide : (_ : Int) ≠ 0), div_lit (by decide), fun w _ hw => ?_⟩; replace hw := hw (by decide); conv => whnf) | (refine eq_rD ?_; conv => whnf) | (refine eq_ts ?_; conv => whnf) | (refine ne_ts ?_; conv => whnf) | (refine ne_rD ?_; conv => whnf) | (refine eq_vD ?_; conv => whnf) | (refine ne_vD ?_; conv => whnf) | (refine ⟨isi_ok rfl, ?_⟩; conv => whnf) | (apply wMulS.mk; (first | exact mul_l (by decide) (by decide) | exact mul_r (by decide) (by decide) | exact mul_ok (by l_ints) (by l_ints) (by decide)); conv => whnf) | (refine ⟨⟨by decide, by decide, by decide⟩, ?_⟩; conv => whnf) | (refine ⟨⟨by decide, by decide, by omega⟩, ?_⟩; conv => whnf) | (refine ⟨small_sz (Nat.le_of_ble_eq_true rfl), ?_⟩; conv => whnf) | fail))
  · have h := hif
    obtain ⟨d, h1, h2⟩ := atI_mem (ds := ns.map .int) (i := (k : Int)) (by omega) (by simpa using hif)
    obtain ⟨c, h3, h4⟩ := List.mem_map.mp h2
    rw [h1, ← h4]
    exact q c (.inl (by simpa using hif))
  · exact q 0 (.inr rfl)
def sp_law_draw : DSp := fun ds Q X => ∃ (a k m : Int), ds = [.int a, .int k, .int m] ∧ 0 ≤ k ∧ k ≤ 1000000 ∧ 0 < m ∧ ∀ z : Int, 0 ≤ z → z < m → Q (.d (.int z))
theorem p_law_draw {G : Nat → DSp} : FnW G 5 3 m_law_draw sp_law_draw := by
  intro ds Q X ⟨a, k, m, e, h1, h2, h3, q⟩
  subst e
  refine ⟨rfl, ?_⟩
  ((conv => whnf); repeat' (first | (refine wIf_tt ?_; conv => whnf) | (refine wIf_ff ?_; conv => whnf) | (refine wIf.mk (fun hif => (have hif := of_decide_eq_true hif; ?_)) (fun hif => (have hif := of_decide_eq_false hif; ?_)) <;> (conv => whnf)) | (refine wIf_not ?_) | (refine ⟨(by decide : (_ : Int) ≠ 0), fun w _ hw => ?_⟩; replace hw := hw (by decide); conv => whnf) | (refine ⟨(by decide : (_ : Int) ≠ 0), div_lit (by decide), fun w _ hw => ?_⟩; replace hw := hw (by decide); conv => whnf) | (refine eq_rD ?_; conv => whnf) | (refine eq_ts ?_; conv => whnf) | (refine ne_ts ?_; conv => whnf) | (refine ne_rD ?_; conv => whnf) | (refine eq_vD ?_; conv => whnf) | (refine ne_vD ?_; conv => whnf) | (refine ⟨isi_ok rfl, ?_⟩; conv => whnf) | (apply wMulS.mk; (first | exact mul_l (by decide) (by decide) | exact mul_r (by decide) (by decide) | exact mul_ok (by l_ints) (by l_ints) (by decide)); conv => whnf) | (refine ⟨⟨by decide, by decide, by decide⟩, ?_⟩; conv => whnf) | (refine ⟨⟨by decide, by decide, by omega⟩, ?_⟩; conv => whnf) | (refine ⟨small_sz (Nat.le_of_ble_eq_true rfl), ?_⟩; conv => whnf) | fail))
  refine ⟨by omega, fun z _ hz => ?_⟩
  have hz := hz h3
  conv => whnf
  exact q z (by rw [hz]; exact Int.emod_nonneg _ (by omega)) (by rw [hz]; exact Int.emod_lt_of_pos _ h3)
def lineD : Option Vec → D
  | none => .none
  | some v => vD v
def sp_law_vector_2 : DSp := fun ds Q X => ∃ (c f : Int) (l : Option Vec), ds = [.int c, .int f, lineD l] ∧ 0 ≤ f ∧ f ≤ 10 ^ 40 ∧ (∀ v, l = some v → VB 10 v) ∧ ∀ v, VB 140 v → Q (.d (vD v))
theorem p_law_vector_2 {G : Nat → DSp} (g43 : G 43 = sp_law_draw) : FnW G 4 3 m_law_vector_2 sp_law_vector_2 := by
  intro ds Q X ⟨c, f, l, e, h1, h2, h3, q⟩
  subst e
  refine ⟨rfl, ?_⟩
  cases l with
  | none =>
    ((conv => whnf); repeat' (first | (refine gC g43 ⟨_, _, _, rfl, by decide, by decide, by omega, fun z hz1 hz2 => ?_⟩; conv => whnf) | (refine wIf_tt ?_; conv => whnf) | (refine wIf_ff ?_; conv => whnf) | (refine wIf.mk (fun hif => (have hif := of_decide_eq_true hif; ?_)) (fun hif => (have hif := of_decide_eq_false hif; ?_)) <;> (conv => whnf)) | (refine wIf_not ?_) | (refine ⟨(by decide : (_ : Int) ≠ 0), fun w _ hw => ?_⟩; replace hw := hw (by decide); conv => whnf) | (refine ⟨(by decide : (_ : Int) ≠ 0), div_lit (by decide), fun w _ hw => ?_⟩; replace hw := hw (by decide); conv => whnf) | (refine eq_rD ?_; conv => whnf) | (refine eq_ts ?_; conv => whnf) | (refine ne_ts ?_; conv => whnf) | (refine ne_rD ?_; conv => whnf) | (refine eq_vD ?_; conv => whnf) | (refine ne_vD ?_; conv => whnf) | (refine ⟨isi_ok rfl, ?_⟩; conv => whnf) | (apply wMulS.mk; (first | exact mul_l (by decide) (by decide) | exact mul_r (by decide) (by decide) | exact mul_ok (by l_ints) (by l_ints) (by decide)); conv => whnf) | (refine ⟨⟨by decide, by decide, by decide⟩, ?_⟩; conv => whnf) | (refine ⟨⟨by decide, by decide, by omega⟩, ?_⟩; conv => whnf) | (refine ⟨small_sz (Nat.le_of_ble_eq_true rfl), ?_⟩; conv => whnf) | fail))
    exact q (_, _) ⟨bd_of (by omega) (by omega), bd_of (by omega) (by omega)⟩
  | some v =>
    obtain ⟨b1, b2⟩ := h3 v rfl
    ((conv => whnf); repeat' (first | (refine gC g43 ⟨_, _, _, rfl, by decide, by decide, by omega, fun z hz1 hz2 => ?_⟩; conv => whnf) | (refine wIf_tt ?_; conv => whnf) | (refine wIf_ff ?_; conv => whnf) | (refine wIf.mk (fun hif => (have hif := of_decide_eq_true hif; ?_)) (fun hif => (have hif := of_decide_eq_false hif; ?_)) <;> (conv => whnf)) | (refine wIf_not ?_) | (refine ⟨(by decide : (_ : Int) ≠ 0), fun w _ hw => ?_⟩; replace hw := hw (by decide); conv => whnf) | (refine ⟨(by decide : (_ : Int) ≠ 0), div_lit (by decide), fun w _ hw => ?_⟩; replace hw := hw (by decide); conv => whnf) | (refine eq_rD ?_; conv => whnf) | (refine eq_ts ?_; conv => whnf) | (refine ne_ts ?_; conv => whnf) | (refine ne_rD ?_; conv => whnf) | (refine eq_vD ?_; conv => whnf) | (refine ne_vD ?_; conv => whnf) | (refine ⟨isi_ok rfl, ?_⟩; conv => whnf) | (apply wMulS.mk; (first | exact mul_l (by decide) (by decide) | exact mul_r (by decide) (by decide) | exact mul_ok (by l_ints) (by l_ints) (by decide)); conv => whnf) | (refine ⟨⟨by decide, by decide, by decide⟩, ?_⟩; conv => whnf) | (refine ⟨⟨by decide, by decide, by omega⟩, ?_⟩; conv => whnf) | (refine ⟨small_sz (Nat.le_of_ble_eq_true rfl), ?_⟩; conv => whnf) | fail))
    exact q (_, _) ⟨Bd.mono (by l_ints) (by decide), Bd.mono (by l_ints) (by decide)⟩
def sp_law_free_vector : DSp := fun ds Q X => ∃ (c f : Int), ds = [.int c, .int f] ∧ 0 ≤ f ∧ f ≤ 10 ^ 40 ∧ ∀ v, VB 140 v → Q (.d (vD v))
theorem p_law_free_vector {G : Nat → DSp} : FnW G 3 2 m_law_free_vector sp_law_free_vector := by
  intro ds Q X ⟨c, f, e, h1, h2, q⟩
  subst e
  refine ⟨rfl, ?_⟩
  have bs : Bd 210 (2 * f + 1) := bd210 (by omega) (by omega)
  have key : ∀ l r : Int, (0 < 2 * f + 1 → r = l % (2 * f + 1)) → 0 ≤ r ∧ r ≤ 2 * f := fun l r h => by
    have h := h (by omega)
    have a := Int.emod_nonneg l (show 2 * f + 1 ≠ 0 by omega)
    have b := Int.emod_lt_of_pos l (show 0 < 2 * f + 1 by omega)
    omega
  ((conv => whnf); repeat' (first | (refine ⟨by omega, fun w _ hw => ?_⟩; replace hw := key _ _ hw; conv => whnf) | (refine ⟨by omega, div_ok bs (by decide), fun w _ _ => ?_⟩; conv => whnf) | (refine wIf_tt ?_; conv => whnf) | (refine wIf_ff ?_; conv => whnf) | (refine wIf.mk (fun hif => (have hif := of_decide_eq_true hif; ?_)) (fun hif => (have hif := of_decide_eq_false hif; ?_)) <;> (conv => whnf)) | (refine wIf_not ?_) | (refine ⟨(by decide : (_ : Int) ≠ 0), fun w _ hw => ?_⟩; replace hw := hw (by decide); conv => whnf) | (refine ⟨(by decide : (_ : Int) ≠ 0), div_lit (by decide), fun w _ hw => ?_⟩; replace hw := hw (by decide); conv => whnf) | (refine eq_rD ?_; conv => whnf) | (refine eq_ts ?_; conv => whnf) | (refine ne_ts ?_; conv => whnf) | (refine ne_rD ?_; conv => whnf) | (refine eq_vD ?_; conv => whnf) | (refine ne_vD ?_; conv => whnf) | (refine ⟨isi_ok rfl, ?_⟩; conv => whnf) | (apply wMulS.mk; (first | exact mul_l (by decide) (by decide) | exact mul_r (by decide) (by decide) | exact mul_ok (by l_ints) (by l_ints) (by decide)); conv => whnf) | (refine ⟨⟨by decide, by decide, by decide⟩, ?_⟩; conv => whnf) | (refine ⟨⟨by decide, by decide, by omega⟩, ?_⟩; conv => whnf) | (refine ⟨small_sz (Nat.le_of_ble_eq_true rfl), ?_⟩; conv => whnf) | fail))
  exact q (_, _) ⟨bd_of (by omega) (by omega), bd_of (by omega) (by omega)⟩
abbrev Wt := List Vec × Vec
def wtD (w : Wt) : D := .tuple [windD w.1, vD w.2]
structure WtOk (k n : Nat) (w : Wt) : Prop where
  ne : w.1 ≠ []
  len : w.1.length ≤ n
  vb : ∀ v ∈ w.1, VB k v
  st : VB k w.2
theorem pick3 {i a b c : Int} (h0 : 0 ≤ i) (h1 : i < 3) : ∃ z, atI [PyData.int a, .int b, .int c] i = some (.int z) ∧ (z = a ∨ z = b ∨ z = c) := by
  obtain ⟨x, h2, h3⟩ := atI_mem (ds := [PyData.int a, .int b, .int c]) h0 (by simpa using h1)
  simp at h3
  rcases h3 with h3 | h3 | h3 <;> subst h3
  · exact ⟨a, h2, .inl rfl⟩
  · exact ⟨b, h2, .inr (.inl rfl)⟩
  · exact ⟨c, h2, .inr (.inr rfl)⟩
theorem cut_le {α : Type} {f : α → D} (xs : List α) (i j : Int) (h0 : 0 ≤ i) (h1 : i ≤ j) : ∃ ys : List α, cutD (xs.map f) (some i) (some j) = ys.map f ∧ (ys.length : Int) ≤ j - i ∧ ∀ y ∈ ys, y ∈ xs := by
  obtain ⟨a, rfl⟩ := Int.eq_ofNat_of_zero_le h0
  obtain ⟨b, rfl⟩ := Int.eq_ofNat_of_zero_le (Int.le_trans h0 h1)
  refine ⟨(xs.drop a).take (b - a), ?_, ?_, fun y hy => List.mem_of_mem_drop (List.mem_of_mem_take hy)⟩
  · rw [List.map_take, List.map_drop]
    exact cut_gen _ a b
  · rw [List.length_take]
    omega
def sp_law_free_watches : DSp := fun ds Q X => ∃ (ns : List Int), ds = [.list (ns.map .int)] ∧ ns ≠ [] ∧ ∀ ws : List Wt, ws.length ≤ 12 → (∀ w ∈ ws, WtOk 140 12 w) → Q (.d (.tuple (ws.map wtD)))
theorem p_law_free_watches {G : Nat → DSp} (g45 : G 45 = sp_law_free_vector) : FnW G 8 1 m_law_free_watches sp_law_free_watches := by
  intro ds Q X ⟨ns, e, hn, q⟩
  subst e
  refine ⟨rfl, ?_⟩
  have hl := List.length_pos_iff.mpr hn
  obtain ⟨c, hc, a0⟩ := atI_maps (f := PyData.int) (xs := ns) (i := 0) (by omega) (by omega)
  ((conv => whnf); repeat' (first | (rw [a0]; conv => whnf) | (refine wIf_tt ?_; conv => whnf) | (refine wIf_ff ?_; conv => whnf) | (refine wIf.mk (fun hif => (have hif := of_decide_eq_true hif; ?_)) (fun hif => (have hif := of_decide_eq_false hif; ?_)) <;> (conv => whnf)) | (refine wIf_not ?_) | (refine ⟨(by decide : (_ : Int) ≠ 0), fun w _ hw => ?_⟩; replace hw := hw (by decide); conv => whnf) | (refine ⟨(by decide : (_ : Int) ≠ 0), div_lit (by decide), fun w _ hw => ?_⟩; replace hw := hw (by decide); conv => whnf) | (refine eq_rD ?_; conv => whnf) | (refine eq_ts ?_; conv => whnf) | (refine ne_ts ?_; conv => whnf) | (refine ne_rD ?_; conv => whnf) | (refine eq_vD ?_; conv => whnf) | (refine ne_vD ?_; conv => whnf) | (refine ⟨isi_ok rfl, ?_⟩; conv => whnf) | (apply wMulS.mk; (first | exact mul_l (by decide) (by decide) | exact mul_r (by decide) (by decide) | exact mul_ok (by l_ints) (by l_ints) (by decide)); conv => whnf) | (refine ⟨⟨by decide, by decide, by decide⟩, ?_⟩; conv => whnf) | (refine ⟨⟨by decide, by decide, by omega⟩, ?_⟩; conv => whnf) | (refine ⟨small_sz (Nat.le_of_ble_eq_true rfl), ?_⟩; conv => whnf) | fail))
  obtain ⟨far, e1, hs⟩ := pick3 (i := w) (a := 3) (b := 12) (c := 10 ^ (9 : Int).toNat) (by omega) (by omega)
  have hp : (10 : Int) ^ (9 : Int).toNat = 10 ^ 9 := rfl
  have hf : 3 ≤ far ∧ far ≤ 10 ^ 9 := by omega
  rw [e1]
  ((conv => whnf); repeat' (first | (refine wIf_tt ?_; conv => whnf) | (refine wIf_ff ?_; conv => whnf) | (refine wIf.mk (fun hif => (have hif := of_decide_eq_true hif; ?_)) (fun hif => (have hif := of_decide_eq_false hif; ?_)) <;> (conv => whnf)) | (refine wIf_not ?_) | (refine ⟨(by decide : (_ : Int) ≠ 0), fun w _ hw => ?_⟩; replace hw := hw (by decide); conv => whnf) | (refine ⟨(by decide : (_ : Int) ≠ 0), div_lit (by decide), fun w _ hw => ?_⟩; replace hw := hw (by decide); conv => whnf) | (refine eq_rD ?_; conv => whnf) | (refine eq_ts ?_; conv => whnf) | (refine ne_ts ?_; conv => whnf) | (refine ne_rD ?_; conv => whnf) | (refine eq_vD ?_; conv => whnf) | (refine ne_vD ?_; conv => whnf) | (refine ⟨isi_ok rfl, ?_⟩; conv => whnf) | (apply wMulS.mk; (first | exact mul_l (by decide) (by decide) | exact mul_r (by decide) (by decide) | exact mul_ok (by l_ints) (by l_ints) (by decide)); conv => whnf) | (refine ⟨⟨by decide, by decide, by decide⟩, ?_⟩; conv => whnf) | (refine ⟨⟨by decide, by decide, by omega⟩, ?_⟩; conv => whnf) | (refine ⟨small_sz (Nat.le_of_ble_eq_true rfl), ?_⟩; conv => whnf) | fail))
  have hlen : ((ns.map PyData.int).length : Int) = ns.length := by simp
  refine ⟨fun n ρ => ∃ (at_ : Int) (ws : List Wt) (a b c d : Option R), 1 ≤ at_ ∧ n = (61 - at_).toNat ∧ ws.length ≤ 12 ∧ (∀ w ∈ ws, WtOk 140 12 w) ∧ ρ = [some (.d (.list (ns.map .int))), some (.d (.int far)), some (.l (ws.map wtD) true), some (.d (.int at_)), a, b, c, d], ⟨_, 1, [], none, none, none, none, by omega, rfl, by simp, by simp, rfl⟩, ?_⟩
  rintro n ρ ⟨at_, ws, a, b, c, d, h1, rfl, h2, h3, rfl⟩
  have fin : Q (.d (.tuple (ws.map wtD))) := q ws h2 h3
  have hmin : (if (61 : Int) < ((ns.map PyData.int).length : Int) then (61 : Int) else ((ns.map PyData.int).length : Int)) ≤ 61 ∧ (if (61 : Int) < ((ns.map PyData.int).length : Int) then (61 : Int) else ((ns.map PyData.int).length : Int)) ≤ ns.length := by split <;> omega
  conv => whnf
  refine wIf.mk (fun hc => ?_) (fun hc => ?_)
  case refine_2 =>
    ((conv => whnf); repeat' (first | (refine wIf_tt ?_; conv => whnf) | (refine wIf_ff ?_; conv => whnf) | (refine wIf.mk (fun hif => (have hif := of_decide_eq_true hif; ?_)) (fun hif => (have hif := of_decide_eq_false hif; ?_)) <;> (conv => whnf)) | (refine wIf_not ?_) | (refine ⟨(by decide : (_ : Int) ≠ 0), fun w _ hw => ?_⟩; replace hw := hw (by decide); conv => whnf) | (refine ⟨(by decide : (_ : Int) ≠ 0), div_lit (by decide), fun w _ hw => ?_⟩; replace hw := hw (by decide); conv => whnf) | (refine eq_rD ?_; conv => whnf) | (refine eq_ts ?_; conv => whnf) | (refine ne_ts ?_; conv => whnf) | (refine ne_rD ?_; conv => whnf) | (refine eq_vD ?_; conv => whnf) | (refine ne_vD ?_; conv => whnf) | (refine ⟨isi_ok rfl, ?_⟩; conv => whnf) | (apply wMulS.mk; (first | exact mul_l (by decide) (by decide) | exact mul_r (by decide) (by decide) | exact mul_ok (by l_ints) (by l_ints) (by decide)); conv => whnf) | (refine ⟨⟨by decide, by decide, by decide⟩, ?_⟩; conv => whnf) | (refine ⟨⟨by decide, by decide, by omega⟩, ?_⟩; conv => whnf) | (refine ⟨small_sz (Nat.le_of_ble_eq_true rfl), ?_⟩; conv => whnf) | fail))
    exact fin
  have hc : at_ < _ := of_decide_eq_true hc
  conv => whnf
  refine wIf.mk (fun hd => ?_) (fun hd => ?_)
  case refine_2 =>
    ((conv => whnf); repeat' (first | (refine wIf_tt ?_; conv => whnf) | (refine wIf_ff ?_; conv => whnf) | (refine wIf.mk (fun hif => (have hif := of_decide_eq_true hif; ?_)) (fun hif => (have hif := of_decide_eq_false hif; ?_)) <;> (conv => whnf)) | (refine wIf_not ?_) | (refine ⟨(by decide : (_ : Int) ≠ 0), fun w _ hw => ?_⟩; replace hw := hw (by decide); conv => whnf) | (refine ⟨(by decide : (_ : Int) ≠ 0), div_lit (by decide), fun w _ hw => ?_⟩; replace hw := hw (by decide); conv => whnf) | (refine eq_rD ?_; conv => whnf) | (refine eq_ts ?_; conv => whnf) | (refine ne_ts ?_; conv => whnf) | (refine ne_rD ?_; conv => whnf) | (refine eq_vD ?_; conv => whnf) | (refine ne_vD ?_; conv => whnf) | (refine ⟨isi_ok rfl, ?_⟩; conv => whnf) | (apply wMulS.mk; (first | exact mul_l (by decide) (by decide) | exact mul_r (by decide) (by decide) | exact mul_ok (by l_ints) (by l_ints) (by decide)); conv => whnf) | (refine ⟨⟨by decide, by decide, by decide⟩, ?_⟩; conv => whnf) | (refine ⟨⟨by decide, by decide, by omega⟩, ?_⟩; conv => whnf) | (refine ⟨small_sz (Nat.le_of_ble_eq_true rfl), ?_⟩; conv => whnf) | fail))
    exact fin
  have hd : ((ws.map wtD).length : Int) < 12 := of_decide_eq_true hd
  have hd : ws.length < 12 := by simp at hd; omega
  have hat : at_ < 61 ∧ at_ < ns.length := ⟨Int.lt_of_lt_of_le hc hmin.1, Int.lt_of_lt_of_le hc hmin.2⟩
  obtain ⟨x, hx, a1⟩ := atI_maps (f := PyData.int) (xs := ns) (i := at_) (by omega) (by omega)
  have fv : ∀ (c : Int) (W : R → Prop) {X : Nat → Prop}, (∀ v, VB 140 v → W (.d (vD v))) → G 45 [.int c, .int far] W X := fun c W _ h => gC g45 ⟨c, far, rfl, by omega, by omega, h⟩
  ((conv => whnf); repeat' (first | (rw [a1]; conv => whnf) | (refine fv _ _ fun v1 hv1 => ?_; conv => whnf) | (refine wIf_tt ?_; conv => whnf) | (refine wIf_ff ?_; conv => whnf) | (refine wIf.mk (fun hif => (have hif := of_decide_eq_true hif; ?_)) (fun hif => (have hif := of_decide_eq_false hif; ?_)) <;> (conv => whnf)) | (refine wIf_not ?_) | (refine ⟨(by decide : (_ : Int) ≠ 0), fun w _ hw => ?_⟩; replace hw := hw (by decide); conv => whnf) | (refine ⟨(by decide : (_ : Int) ≠ 0), div_lit (by decide), fun w _ hw => ?_⟩; replace hw := hw (by decide); conv => whnf) | (refine eq_rD ?_; conv => whnf) | (refine eq_ts ?_; conv => whnf) | (refine ne_ts ?_; conv => whnf) | (refine ne_rD ?_; conv => whnf) | (refine eq_vD ?_; conv => whnf) | (refine ne_vD ?_; conv => whnf) | (refine ⟨isi_ok rfl, ?_⟩; conv => whnf) | (apply wMulS.mk; (first | exact mul_l (by decide) (by decide) | exact mul_r (by decide) (by decide) | exact mul_ok (by l_ints) (by l_ints) (by decide)); conv => whnf) | (refine ⟨⟨by decide, by decide, by decide⟩, ?_⟩; conv => whnf) | (refine ⟨⟨by decide, by decide, by omega⟩, ?_⟩; conv => whnf) | (refine ⟨small_sz (Nat.le_of_ble_eq_true rfl), ?_⟩; conv => whnf) | fail))
  have hw1 : 0 ≤ x % 12 ∧ x % 12 < 12 := by omega
  obtain ⟨j, hj⟩ : ∃ j, j = (fun i j : Int => if j < i then j else i) (at_ + (1 + x % 12)) 61 := ⟨_, rfl⟩
  have hj1 : at_ + 1 ≤ j ∧ j - at_ ≤ 12 := by
    rw [hj]
    show _ ≤ (if (61 : Int) < _ then _ else _) ∧ (if (61 : Int) < _ then _ else _) - at_ ≤ 12
    split <;> omega
  have hj2 : ∀ y, y = x % 12 → (fun i j : Int => if j < i then j else i) (at_ + (1 + y)) 61 = j := fun y h => by rw [h, hj]
  rw [hj2 _ (by assumption)]
  obtain ⟨cs, ec, lc, _⟩ := cut_le (f := PyData.int) ns (at_ + 1) j (by omega) (by omega)
  rw [ec]
  refine lc_each (t := .nm 7) PyData.int vD (VB 140) cs (fun y _ k hk => ?_) fun vs hl hv => ?_
  · ((conv => whnf); repeat' (first | (refine fv _ _ fun v1 hv1 => ?_; conv => whnf) | (refine wIf_tt ?_; conv => whnf) | (refine wIf_ff ?_; conv => whnf) | (refine wIf.mk (fun hif => (have hif := of_decide_eq_true hif; ?_)) (fun hif => (have hif := of_decide_eq_false hif; ?_)) <;> (conv => whnf)) | (refine wIf_not ?_) | (refine ⟨(by decide : (_ : Int) ≠ 0), fun w _ hw => ?_⟩; replace hw := hw (by decide); conv => whnf) | (refine ⟨(by decide : (_ : Int) ≠ 0), div_lit (by decide), fun w _ hw => ?_⟩; replace hw := hw (by decide); conv => whnf) | (refine eq_rD ?_; conv => whnf) | (refine eq_ts ?_; conv => whnf) | (refine ne_ts ?_; conv => whnf) | (refine ne_rD ?_; conv => whnf) | (refine eq_vD ?_; conv => whnf) | (refine ne_vD ?_; conv => whnf) | (refine ⟨isi_ok rfl, ?_⟩; conv => whnf) | (apply wMulS.mk; (first | exact mul_l (by decide) (by decide) | exact mul_r (by decide) (by decide) | exact mul_ok (by l_ints) (by l_ints) (by decide)); conv => whnf) | (refine ⟨⟨by decide, by decide, by decide⟩, ?_⟩; conv => whnf) | (refine ⟨⟨by decide, by decide, by omega⟩, ?_⟩; conv => whnf) | (refine ⟨small_sz (Nat.le_of_ble_eq_true rfl), ?_⟩; conv => whnf) | fail))
    exact hk _ hv1
  have hpw : (2 * far + 1) ^ (2 : Int).toNat = (2 * far + 1) * (2 * far + 1) := by
    show (2 * far + 1) ^ 2 = _
    rw [Int.pow_succ, Int.pow_succ, Int.pow_zero, Int.one_mul]
  have bp : Bd 80 ((2 * far + 1) ^ (2 : Int).toNat) := by
    rw [hpw]
    exact Bd.mul (bd40 (by omega) (by omega)) (bd40 (by omega) (by omega))
  have np : (2 * far + 1) ^ (2 : Int).toNat ≠ 0 := by
    rw [hpw]
    exact Int.mul_ne_zero (by omega) (by omega)
  conv => whnf
  refine ⟨small_sz (by simp; omega), ?_⟩
  ((conv => whnf); repeat' (first | (refine fv _ _ fun v2 hv2 => ?_; conv => whnf) | (refine ⟨np, div_ok bp (by decide), fun w _ _ => ?_⟩; conv => whnf) | (refine wIf_tt ?_; conv => whnf) | (refine wIf_ff ?_; conv => whnf) | (refine wIf.mk (fun hif => (have hif := of_decide_eq_true hif; ?_)) (fun hif => (have hif := of_decide_eq_false hif; ?_)) <;> (conv => whnf)) | (refine wIf_not ?_) | (refine ⟨(by decide : (_ : Int) ≠ 0), fun w _ hw => ?_⟩; replace hw := hw (by decide); conv => whnf) | (refine ⟨(by decide : (_ : Int) ≠ 0), div_lit (by decide), fun w _ hw => ?_⟩; replace hw := hw (by decide); conv => whnf) | (refine eq_rD ?_; conv => whnf) | (refine eq_ts ?_; conv => whnf) | (refine ne_ts ?_; conv => whnf) | (refine ne_rD ?_; conv => whnf) | (refine eq_vD ?_; conv => whnf) | (refine ne_vD ?_; conv => whnf) | (refine ⟨isi_ok rfl, ?_⟩; conv => whnf) | (apply wMulS.mk; (first | exact mul_l (by decide) (by decide) | exact mul_r (by decide) (by decide) | exact mul_ok (by l_ints) (by l_ints) (by decide)); conv => whnf) | (refine ⟨⟨by decide, by decide, by decide⟩, ?_⟩; conv => whnf) | (refine ⟨⟨by decide, by decide, by omega⟩, ?_⟩; conv => whnf) | (refine ⟨small_sz (Nat.le_of_ble_eq_true rfl), ?_⟩; conv => whnf) | fail))
  refine ⟨by simp; exact small_lt (by omega), ?_⟩
  conv => whnf
  refine ⟨_, ?_, _, ws ++ [(v1 :: vs, v2)], _, _, _, _, ?_, rfl, by simp; omega, fun w hw => ?_, by rw [List.map_append]; rfl⟩
  · omega
  · omega
  · rcases List.mem_append.mp hw with h | h
    · exact h3 w h
    · rw [List.mem_singleton.mp h]
      exact ⟨by simp, by simp; omega, fun u hu => by
        rcases List.mem_cons.mp hu with h | h
        · rw [h]; exact hv1
        · exact hv u h, hv2⟩
theorem pick4i {i a b c d : Int} (h0 : 0 ≤ i) (h1 : i < 4) : ∃ z, atI [PyData.int a, .int b, .int c, .int d] i = some (.int z) ∧ (z = a ∨ z = b ∨ z = c ∨ z = d) := by
  obtain ⟨x, h2, h3⟩ := atI_mem (ds := [PyData.int a, .int b, .int c, .int d]) h0 (by simpa using h1)
  simp at h3
  rcases h3 with h3 | h3 | h3 | h3 <;> subst h3
  · exact ⟨a, h2, .inl rfl⟩
  · exact ⟨b, h2, .inr (.inl rfl)⟩
  · exact ⟨c, h2, .inr (.inr (.inl rfl))⟩
  · exact ⟨d, h2, .inr (.inr (.inr rfl))⟩
def sp_law_watches : DSp := fun ds Q X => ∃ (ns : List Int), ds = [.list (ns.map .int)] ∧ ∀ ws : List Wt, ws.length ≤ 12 → (∀ w ∈ ws, WtOk 140 12 w) → Q (.d (.tuple (ws.map wtD)))
theorem p_law_watches {G : Nat → DSp} (g42 : G 42 = sp_law_cell_at) (g43 : G 43 = sp_law_draw) (g44 : G 44 = sp_law_vector_2) (g46 : G 46 = sp_law_free_watches) : FnW G 11 1 m_law_watches sp_law_watches := by
  intro ds Q X ⟨ns, e, q⟩
  subst e
  refine ⟨rfl, ?_⟩
  conv => whnf
  refine gC g42 ⟨ns, 0, rfl, fun base hbase => ?_⟩
  have dr : ∀ (a k m : Int) (W : R → Prop) {X : Nat → Prop}, (0 ≤ k ∧ k ≤ 1000000 ∧ 0 < m) → (∀ z : Int, 0 ≤ z → z < m → W (.d (.int z))) → G 43 [.int a, .int k, .int m] W X := fun a k m W _ hh h => gC g43 ⟨a, k, m, rfl, hh.1, hh.2.1, hh.2.2, h⟩
  ((conv => whnf); repeat' (first | (refine dr _ _ _ _ (by decide) fun z hz1 hz2 => ?_; conv => whnf) | (refine wIf_tt ?_; conv => whnf) | (refine wIf_ff ?_; conv => whnf) | (refine wIf.mk (fun hif => (have hif := of_decide_eq_true hif; ?_)) (fun hif => (have hif := of_decide_eq_false hif; ?_)) <;> (conv => whnf)) | (refine wIf_not ?_) | (refine ⟨(by decide : (_ : Int) ≠ 0), fun w _ hw => ?_⟩; replace hw := hw (by decide); conv => whnf) | (refine ⟨(by decide : (_ : Int) ≠ 0), div_lit (by decide), fun w _ hw => ?_⟩; replace hw := hw (by decide); conv => whnf) | (refine eq_rD ?_; conv => whnf) | (refine eq_ts ?_; conv => whnf) | (refine ne_ts ?_; conv => whnf) | (refine ne_rD ?_; conv => whnf) | (refine eq_vD ?_; conv => whnf) | (refine ne_vD ?_; conv => whnf) | (refine ⟨isi_ok rfl, ?_⟩; conv => whnf) | (apply wMulS.mk; (first | exact mul_l (by decide) (by decide) | exact mul_r (by decide) (by decide) | exact mul_ok (by l_ints) (by l_ints) (by decide)); conv => whnf) | (refine ⟨⟨by decide, by decide, by decide⟩, ?_⟩; conv => whnf) | (refine ⟨⟨by decide, by decide, by omega⟩, ?_⟩; conv => whnf) | (refine ⟨small_sz (Nat.le_of_ble_eq_true rfl), ?_⟩; conv => whnf) | fail))
  · have h0 : ns ≠ [] := by
      intro h
      subst h
      rcases hbase with h | h
      · simp at h
      · subst h; omega
    exact gC g46 ⟨ns, rfl, h0, fun ws h1 h2 => q ws h1 h2⟩
  obtain ⟨far, e1, hs⟩ := pick4i (i := z) (a := 3) (b := 3) (c := 12) (d := 10 ^ (9 : Int).toNat) (by omega) (by omega)
  have hp : (10 : Int) ^ (9 : Int).toNat = 10 ^ 9 := rfl
  have hf : 3 ≤ far ∧ far ≤ 10 ^ 9 := by omega
  rw [e1]
  conv => whnf
  refine dr _ 4 5 _ (by decide) fun z1 _ _ => ?_
  conv => whnf
  refine wIf.mk (fun hl => ?_) (fun hl => ?_)
  · ((conv => whnf); repeat' (first | (refine wIf_tt ?_; conv => whnf) | (refine wIf_ff ?_; conv => whnf) | (refine wIf.mk (fun hif => (have hif := of_decide_eq_true hif; ?_)) (fun hif => (have hif := of_decide_eq_false hif; ?_)) <;> (conv => whnf)) | (refine wIf_not ?_) | (refine ⟨(by decide : (_ : Int) ≠ 0), fun w _ hw => ?_⟩; replace hw := hw (by decide); conv => whnf) | (refine ⟨(by decide : (_ : Int) ≠ 0), div_lit (by decide), fun w _ hw => ?_⟩; replace hw := hw (by decide); conv => whnf) | (refine eq_rD ?_; conv => whnf) | (refine eq_ts ?_; conv => whnf) | (refine ne_ts ?_; conv => whnf) | (refine ne_rD ?_; conv => whnf) | (refine eq_vD ?_; conv => whnf) | (refine ne_vD ?_; conv => whnf) | (refine ⟨isi_ok rfl, ?_⟩; conv => whnf) | (apply wMulS.mk; (first | exact mul_l (by decide) (by decide) | exact mul_r (by decide) (by decide) | exact mul_ok (by l_ints) (by l_ints) (by decide)); conv => whnf) | (refine ⟨⟨by decide, by decide, by decide⟩, ?_⟩; conv => whnf) | (refine ⟨⟨by decide, by decide, by omega⟩, ?_⟩; conv => whnf) | (refine ⟨small_sz (Nat.le_of_ble_eq_true rfl), ?_⟩; conv => whnf) | fail))
    refine dr _ 5 7 _ (by decide) fun z2 _ _ => ?_
    conv => whnf
    refine dr _ 6 7 _ (by decide) fun z3 _ _ => ?_
    ((conv => whnf); repeat' (first | (refine wIf_tt ?_; conv => whnf) | (refine wIf_ff ?_; conv => whnf) | (refine wIf.mk (fun hif => (have hif := of_decide_eq_true hif; ?_)) (fun hif => (have hif := of_decide_eq_false hif; ?_)) <;> (conv => whnf)) | (refine wIf_not ?_) | (refine ⟨(by decide : (_ : Int) ≠ 0), fun w _ hw => ?_⟩; replace hw := hw (by decide); conv => whnf) | (refine ⟨(by decide : (_ : Int) ≠ 0), div_lit (by decide), fun w _ hw => ?_⟩; replace hw := hw (by decide); conv => whnf) | (refine eq_rD ?_; conv => whnf) | (refine eq_ts ?_; conv => whnf) | (refine ne_ts ?_; conv => whnf) | (refine ne_rD ?_; conv => whnf) | (refine eq_vD ?_; conv => whnf) | (refine ne_vD ?_; conv => whnf) | (refine ⟨isi_ok rfl, ?_⟩; conv => whnf) | (apply wMulS.mk; (first | exact mul_l (by decide) (by decide) | exact mul_r (by decide) (by decide) | exact mul_ok (by l_ints) (by l_ints) (by decide)); conv => whnf) | (refine ⟨⟨by decide, by decide, by decide⟩, ?_⟩; conv => whnf) | (refine ⟨⟨by decide, by decide, by omega⟩, ?_⟩; conv => whnf) | (refine ⟨small_sz (Nat.le_of_ble_eq_true rfl), ?_⟩; conv => whnf) | fail))
    refine dr _ 8 4 _ (by decide) fun z4 hz41 hz42 => ?_
    ((conv => whnf); repeat' (first | (refine wIf_tt ?_; conv => whnf) | (refine wIf_ff ?_; conv => whnf) | (refine wIf.mk (fun hif => (have hif := of_decide_eq_true hif; ?_)) (fun hif => (have hif := of_decide_eq_false hif; ?_)) <;> (conv => whnf)) | (refine wIf_not ?_) | (refine ⟨(by decide : (_ : Int) ≠ 0), fun w _ hw => ?_⟩; replace hw := hw (by decide); conv => whnf) | (refine ⟨(by decide : (_ : Int) ≠ 0), div_lit (by decide), fun w _ hw => ?_⟩; replace hw := hw (by decide); conv => whnf) | (refine eq_rD ?_; conv => whnf) | (refine eq_ts ?_; conv => whnf) | (refine ne_ts ?_; conv => whnf) | (refine ne_rD ?_; conv => whnf) | (refine eq_vD ?_; conv => whnf) | (refine ne_vD ?_; conv => whnf) | (refine ⟨isi_ok rfl, ?_⟩; conv => whnf) | (apply wMulS.mk; (first | exact mul_l (by decide) (by decide) | exact mul_r (by decide) (by decide) | exact mul_ok (by l_ints) (by l_ints) (by decide)); conv => whnf) | (refine ⟨⟨by decide, by decide, by decide⟩, ?_⟩; conv => whnf) | (refine ⟨⟨by decide, by decide, by omega⟩, ?_⟩; conv => whnf) | (refine ⟨small_sz (Nat.le_of_ble_eq_true rfl), ?_⟩; conv => whnf) | fail))
    have hLL : ∀ v, (some (z2 - 3, z3 - 3) : Option Vec) = some v → VB 10 v := fun v h => by cases h; exact ⟨bd_of (by omega) (by omega), bd_of (by omega) (by omega)⟩
    obtain ⟨most, e2, hm⟩ := pick4i (i := z4) (a := 3) (b := 3) (c := 5) (d := 12) (by assumption) (by assumption)
    have hm2 : 3 ≤ most ∧ most ≤ 12 := by omega
    rw [e2]
    ((conv => whnf); repeat' (first | (refine wIf_tt ?_; conv => whnf) | (refine wIf_ff ?_; conv => whnf) | (refine wIf.mk (fun hif => (have hif := of_decide_eq_true hif; ?_)) (fun hif => (have hif := of_decide_eq_false hif; ?_)) <;> (conv => whnf)) | (refine wIf_not ?_) | (refine ⟨(by decide : (_ : Int) ≠ 0), fun w _ hw => ?_⟩; replace hw := hw (by decide); conv => whnf) | (refine ⟨(by decide : (_ : Int) ≠ 0), div_lit (by decide), fun w _ hw => ?_⟩; replace hw := hw (by decide); conv => whnf) | (refine eq_rD ?_; conv => whnf) | (refine eq_ts ?_; conv => whnf) | (refine ne_ts ?_; conv => whnf) | (refine ne_rD ?_; conv => whnf) | (refine eq_vD ?_; conv => whnf) | (refine ne_vD ?_; conv => whnf) | (refine ⟨isi_ok rfl, ?_⟩; conv => whnf) | (apply wMulS.mk; (first | exact mul_l (by decide) (by decide) | exact mul_r (by decide) (by decide) | exact mul_ok (by l_ints) (by l_ints) (by decide)); conv => whnf) | (refine ⟨⟨by decide, by decide, by decide⟩, ?_⟩; conv => whnf) | (refine ⟨⟨by decide, by decide, by omega⟩, ?_⟩; conv => whnf) | (refine ⟨small_sz (Nat.le_of_ble_eq_true rfl), ?_⟩; conv => whnf) | fail))
    refine ⟨fun n ρ => ∃ (at_ : Int) (ws : List Wt) (a b c d : Option DL.R), 1 ≤ at_ ∧ n = (61 - at_).toNat ∧ ws.length ≤ 12 ∧ (∀ w ∈ ws, WtOk 140 12 w) ∧ ρ = [some (.d (.list (ns.map .int))), some (.d (.int base)), some (.d (.int far)), some (.d (lineD (some (z2 - 3, z3 - 3)))), some (.d (.int most)), some (.l (ws.map wtD) true), some (.d (.int at_)), a, b, c, d], ⟨_, 1, [], none, none, none, none, by omega, rfl, by simp, by simp, rfl⟩, ?_⟩
    rintro n ρ ⟨at_, ws, a, b, c, d, h1, rfl, h2, h3, rfl⟩
    have fin : Q (.d (.tuple (ws.map wtD))) := q ws h2 h3
    have hlen : ((ns.map PyData.int).length : Int) = ns.length := by simp
    have hmin : (if (61 : Int) < ((ns.map PyData.int).length : Int) then (61 : Int) else ((ns.map PyData.int).length : Int)) ≤ 61 ∧ (if (61 : Int) < ((ns.map PyData.int).length : Int) then (61 : Int) else ((ns.map PyData.int).length : Int)) ≤ ns.length := by split <;> omega
    conv => whnf
    refine wIf.mk (fun hc => ?_) (fun hc => ?_)
    case refine_2 =>
      ((conv => whnf); repeat' (first | (refine wIf_tt ?_; conv => whnf) | (refine wIf_ff ?_; conv => whnf) | (refine wIf.mk (fun hif => (have hif := of_decide_eq_true hif; ?_)) (fun hif => (have hif := of_decide_eq_false hif; ?_)) <;> (conv => whnf)) | (refine wIf_not ?_) | (refine ⟨(by decide : (_ : Int) ≠ 0), fun w _ hw => ?_⟩; replace hw := hw (by decide); conv => whnf) | (refine ⟨(by decide : (_ : Int) ≠ 0), div_lit (by decide), fun w _ hw => ?_⟩; replace hw := hw (by decide); conv => whnf) | (refine eq_rD ?_; conv => whnf) | (refine eq_ts ?_; conv => whnf) | (refine ne_ts ?_; conv => whnf) | (refine ne_rD ?_; conv => whnf) | (refine eq_vD ?_; conv => whnf) | (refine ne_vD ?_; conv => whnf) | (refine ⟨isi_ok rfl, ?_⟩; conv => whnf) | (apply wMulS.mk; (first | exact mul_l (by decide) (by decide) | exact mul_r (by decide) (by decide) | exact mul_ok (by l_ints) (by l_ints) (by decide)); conv => whnf) | (refine ⟨⟨by decide, by decide, by decide⟩, ?_⟩; conv => whnf) | (refine ⟨⟨by decide, by decide, by omega⟩, ?_⟩; conv => whnf) | (refine ⟨small_sz (Nat.le_of_ble_eq_true rfl), ?_⟩; conv => whnf) | fail))
      exact fin
    have hc : at_ < _ := of_decide_eq_true hc
    conv => whnf
    refine wIf.mk (fun hd => ?_) (fun hd => ?_)
    case refine_2 =>
      ((conv => whnf); repeat' (first | (refine wIf_tt ?_; conv => whnf) | (refine wIf_ff ?_; conv => whnf) | (refine wIf.mk (fun hif => (have hif := of_decide_eq_true hif; ?_)) (fun hif => (have hif := of_decide_eq_false hif; ?_)) <;> (conv => whnf)) | (refine wIf_not ?_) | (refine ⟨(by decide : (_ : Int) ≠ 0), fun w _ hw => ?_⟩; replace hw := hw (by decide); conv => whnf) | (refine ⟨(by decide : (_ : Int) ≠ 0), div_lit (by decide), fun w _ hw => ?_⟩; replace hw := hw (by decide); conv => whnf) | (refine eq_rD ?_; conv => whnf) | (refine eq_ts ?_; conv => whnf) | (refine ne_ts ?_; conv => whnf) | (refine ne_rD ?_; conv => whnf) | (refine eq_vD ?_; conv => whnf) | (refine ne_vD ?_; conv => whnf) | (refine ⟨isi_ok rfl, ?_⟩; conv => whnf) | (apply wMulS.mk; (first | exact mul_l (by decide) (by decide) | exact mul_r (by decide) (by decide) | exact mul_ok (by l_ints) (by l_ints) (by decide)); conv => whnf) | (refine ⟨⟨by decide, by decide, by decide⟩, ?_⟩; conv => whnf) | (refine ⟨⟨by decide, by decide, by omega⟩, ?_⟩; conv => whnf) | (refine ⟨small_sz (Nat.le_of_ble_eq_true rfl), ?_⟩; conv => whnf) | fail))
      exact fin
    have hd : ((ws.map wtD).length : Int) < 12 := of_decide_eq_true hd
    have hd : ws.length < 12 := by simp at hd; omega
    have hat : at_ < 61 ∧ at_ < ns.length := ⟨Int.lt_of_lt_of_le hc hmin.1, Int.lt_of_lt_of_le hc hmin.2⟩
    obtain ⟨x, hx, a1⟩ := atI_maps (f := PyData.int) (xs := ns) (i := at_) (by omega) (by omega)
    conv => whnf
    rw [a1]
    conv => whnf
    refine dr x 7 most _ ⟨by decide, by decide, by omega⟩ fun sz hs1 hs2 => ?_
    ((conv => whnf); repeat' (first | (refine wIf_tt ?_; conv => whnf) | (refine wIf_ff ?_; conv => whnf) | (refine wIf.mk (fun hif => (have hif := of_decide_eq_true hif; ?_)) (fun hif => (have hif := of_decide_eq_false hif; ?_)) <;> (conv => whnf)) | (refine wIf_not ?_) | (refine ⟨(by decide : (_ : Int) ≠ 0), fun w _ hw => ?_⟩; replace hw := hw (by decide); conv => whnf) | (refine ⟨(by decide : (_ : Int) ≠ 0), div_lit (by decide), fun w _ hw => ?_⟩; replace hw := hw (by decide); conv => whnf) | (refine eq_rD ?_; conv => whnf) | (refine eq_ts ?_; conv => whnf) | (refine ne_ts ?_; conv => whnf) | (refine ne_rD ?_; conv => whnf) | (refine eq_vD ?_; conv => whnf) | (refine ne_vD ?_; conv => whnf) | (refine ⟨isi_ok rfl, ?_⟩; conv => whnf) | (apply wMulS.mk; (first | exact mul_l (by decide) (by decide) | exact mul_r (by decide) (by decide) | exact mul_ok (by l_ints) (by l_ints) (by decide)); conv => whnf) | (refine ⟨⟨by decide, by decide, by decide⟩, ?_⟩; conv => whnf) | (refine ⟨⟨by decide, by decide, by omega⟩, ?_⟩; conv => whnf) | (refine ⟨small_sz (Nat.le_of_ble_eq_true rfl), ?_⟩; conv => whnf) | fail))
    obtain ⟨j, hj⟩ : ∃ j, j = (fun i j : Int => if j < i then j else i) (at_ + (1 + sz)) 61 := ⟨_, rfl⟩
    have hj1 : at_ + 1 ≤ j ∧ j - at_ ≤ 12 := by
      rw [hj]
      show _ ≤ (if (61 : Int) < _ then _ else _) ∧ (if (61 : Int) < _ then _ else _) - at_ ≤ 12
      split <;> omega
    rw [← hj]
    obtain ⟨cs, ec, lc, _⟩ := cut_le (f := PyData.int) ns at_ j (by omega) (by omega)
    have lc0 : cs ≠ [] := by
      obtain ⟨at0, rfl⟩ := Int.eq_ofNat_of_zero_le (show 0 ≤ at_ by omega)
      obtain ⟨j0, rfl⟩ := Int.eq_ofNat_of_zero_le (show 0 ≤ j by omega)
      have := cut_gen (ns.map PyData.int) at0 j0
      intro h
      subst h
      have h5 := congrArg List.length (ec.symm.trans this)
      rw [List.length_take, List.length_drop, List.length_map, List.length_map] at h5
      simp only [List.length_nil] at h5
      omega
    rw [ec]
    have vv : ∀ (c : Int) (W : R → Prop) {X : Nat → Prop}, (∀ v, VB 140 v → W (.d (vD v))) → G 44 [.int c, .int far, lineD (some (z2 - 3, z3 - 3))] W X := fun c W _ h => gC g44 ⟨c, far, (some (z2 - 3, z3 - 3)), rfl, by omega, by omega, hLL, h⟩
    refine lc_each (t := .nm 9) PyData.int vD (VB 140) cs (fun y _ k hk => ?_) fun vs hl hv => ?_
    · conv => whnf
      refine vv _ _ fun v1 hv1 => ?_
      conv => whnf
      exact hk _ hv1
    have ne : vs ≠ [] := by intro h; subst h; exact lc0 (List.length_eq_zero_iff.mp hl.symm)
    ((conv => whnf); repeat' (first | (rw [a1]; conv => whnf) | (refine dr _ _ _ _ (by decide) fun z hz1 hz2 => ?_; conv => whnf) | (refine vv _ _ fun v1 hv1 => ?_; conv => whnf) | (refine wIf_tt ?_; conv => whnf) | (refine wIf_ff ?_; conv => whnf) | (refine wIf.mk (fun hif => (have hif := of_decide_eq_true hif; ?_)) (fun hif => (have hif := of_decide_eq_false hif; ?_)) <;> (conv => whnf)) | (refine wIf_not ?_) | (refine ⟨(by decide : (_ : Int) ≠ 0), fun w _ hw => ?_⟩; replace hw := hw (by decide); conv => whnf) | (refine ⟨(by decide : (_ : Int) ≠ 0), div_lit (by decide), fun w _ hw => ?_⟩; replace hw := hw (by decide); conv => whnf) | (refine eq_rD ?_; conv => whnf) | (refine eq_ts ?_; conv => whnf) | (refine ne_ts ?_; conv => whnf) | (refine ne_rD ?_; conv => whnf) | (refine eq_vD ?_; conv => whnf) | (refine ne_vD ?_; conv => whnf) | (refine ⟨isi_ok rfl, ?_⟩; conv => whnf) | (apply wMulS.mk; (first | exact mul_l (by decide) (by decide) | exact mul_r (by decide) (by decide) | exact mul_ok (by l_ints) (by l_ints) (by decide)); conv => whnf) | (refine ⟨⟨by decide, by decide, by decide⟩, ?_⟩; conv => whnf) | (refine ⟨⟨by decide, by decide, by omega⟩, ?_⟩; conv => whnf) | (refine ⟨small_sz (Nat.le_of_ble_eq_true rfl), ?_⟩; conv => whnf) | fail))
    · refine ⟨by simp; exact small_lt (by omega), ?_⟩
      conv => whnf
      refine ⟨_, ?_, _, ws ++ [(vs, v1)], _, _, _, _, ?_, rfl, by simp; omega, fun w hw => ?_, by rw [List.map_append]; rfl⟩
      · omega
      · omega
      · rcases List.mem_append.mp hw with h | h
        · exact h3 w h
        · rw [List.mem_singleton.mp h]
          exact ⟨ne, by simp; omega, hv, hv1⟩
    · refine ⟨by simp; exact small_lt (by omega), ?_⟩
      conv => whnf
      refine ⟨_, ?_, _, ws ++ [(vs, (0, 0))], _, _, _, _, ?_, rfl, by simp; omega, fun w hw => ?_, by rw [List.map_append]; rfl⟩
      · omega
      · omega
      · rcases List.mem_append.mp hw with h | h
        · exact h3 w h
        · rw [List.mem_singleton.mp h]
          exact ⟨ne, by simp; omega, hv, ⟨(by decide : Bd 140 0), (by decide : Bd 140 0)⟩⟩
  · ((conv => whnf); repeat' (first | (refine wIf_tt ?_; conv => whnf) | (refine wIf_ff ?_; conv => whnf) | (refine wIf.mk (fun hif => (have hif := of_decide_eq_true hif; ?_)) (fun hif => (have hif := of_decide_eq_false hif; ?_)) <;> (conv => whnf)) | (refine wIf_not ?_) | (refine ⟨(by decide : (_ : Int) ≠ 0), fun w _ hw => ?_⟩; replace hw := hw (by decide); conv => whnf) | (refine ⟨(by decide : (_ : Int) ≠ 0), div_lit (by decide), fun w _ hw => ?_⟩; replace hw := hw (by decide); conv => whnf) | (refine eq_rD ?_; conv => whnf) | (refine eq_ts ?_; conv => whnf) | (refine ne_ts ?_; conv => whnf) | (refine ne_rD ?_; conv => whnf) | (refine eq_vD ?_; conv => whnf) | (refine ne_vD ?_; conv => whnf) | (refine ⟨isi_ok rfl, ?_⟩; conv => whnf) | (apply wMulS.mk; (first | exact mul_l (by decide) (by decide) | exact mul_r (by decide) (by decide) | exact mul_ok (by l_ints) (by l_ints) (by decide)); conv => whnf) | (refine ⟨⟨by decide, by decide, by decide⟩, ?_⟩; conv => whnf) | (refine ⟨⟨by decide, by decide, by omega⟩, ?_⟩; conv => whnf) | (refine ⟨small_sz (Nat.le_of_ble_eq_true rfl), ?_⟩; conv => whnf) | fail))
    refine dr _ 8 4 _ (by decide) fun z4 hz41 hz42 => ?_
    ((conv => whnf); repeat' (first | (refine wIf_tt ?_; conv => whnf) | (refine wIf_ff ?_; conv => whnf) | (refine wIf.mk (fun hif => (have hif := of_decide_eq_true hif; ?_)) (fun hif => (have hif := of_decide_eq_false hif; ?_)) <;> (conv => whnf)) | (refine wIf_not ?_) | (refine ⟨(by decide : (_ : Int) ≠ 0), fun w _ hw => ?_⟩; replace hw := hw (by decide); conv => whnf) | (refine ⟨(by decide : (_ : Int) ≠ 0), div_lit (by decide), fun w _ hw => ?_⟩; replace hw := hw (by decide); conv => whnf) | (refine eq_rD ?_; conv => whnf) | (refine eq_ts ?_; conv => whnf) | (refine ne_ts ?_; conv => whnf) | (refine ne_rD ?_; conv => whnf) | (refine eq_vD ?_; conv => whnf) | (refine ne_vD ?_; conv => whnf) | (refine ⟨isi_ok rfl, ?_⟩; conv => whnf) | (apply wMulS.mk; (first | exact mul_l (by decide) (by decide) | exact mul_r (by decide) (by decide) | exact mul_ok (by l_ints) (by l_ints) (by decide)); conv => whnf) | (refine ⟨⟨by decide, by decide, by decide⟩, ?_⟩; conv => whnf) | (refine ⟨⟨by decide, by decide, by omega⟩, ?_⟩; conv => whnf) | (refine ⟨small_sz (Nat.le_of_ble_eq_true rfl), ?_⟩; conv => whnf) | fail))
    have hLL : ∀ v, (none : Option Vec) = some v → VB 10 v := fun v h => by cases h
    obtain ⟨most, e2, hm⟩ := pick4i (i := z4) (a := 3) (b := 3) (c := 5) (d := 12) (by assumption) (by assumption)
    have hm2 : 3 ≤ most ∧ most ≤ 12 := by omega
    rw [e2]
    ((conv => whnf); repeat' (first | (refine wIf_tt ?_; conv => whnf) | (refine wIf_ff ?_; conv => whnf) | (refine wIf.mk (fun hif => (have hif := of_decide_eq_true hif; ?_)) (fun hif => (have hif := of_decide_eq_false hif; ?_)) <;> (conv => whnf)) | (refine wIf_not ?_) | (refine ⟨(by decide : (_ : Int) ≠ 0), fun w _ hw => ?_⟩; replace hw := hw (by decide); conv => whnf) | (refine ⟨(by decide : (_ : Int) ≠ 0), div_lit (by decide), fun w _ hw => ?_⟩; replace hw := hw (by decide); conv => whnf) | (refine eq_rD ?_; conv => whnf) | (refine eq_ts ?_; conv => whnf) | (refine ne_ts ?_; conv => whnf) | (refine ne_rD ?_; conv => whnf) | (refine eq_vD ?_; conv => whnf) | (refine ne_vD ?_; conv => whnf) | (refine ⟨isi_ok rfl, ?_⟩; conv => whnf) | (apply wMulS.mk; (first | exact mul_l (by decide) (by decide) | exact mul_r (by decide) (by decide) | exact mul_ok (by l_ints) (by l_ints) (by decide)); conv => whnf) | (refine ⟨⟨by decide, by decide, by decide⟩, ?_⟩; conv => whnf) | (refine ⟨⟨by decide, by decide, by omega⟩, ?_⟩; conv => whnf) | (refine ⟨small_sz (Nat.le_of_ble_eq_true rfl), ?_⟩; conv => whnf) | fail))
    refine ⟨fun n ρ => ∃ (at_ : Int) (ws : List Wt) (a b c d : Option DL.R), 1 ≤ at_ ∧ n = (61 - at_).toNat ∧ ws.length ≤ 12 ∧ (∀ w ∈ ws, WtOk 140 12 w) ∧ ρ = [some (.d (.list (ns.map .int))), some (.d (.int base)), some (.d (.int far)), some (.d (lineD none)), some (.d (.int most)), some (.l (ws.map wtD) true), some (.d (.int at_)), a, b, c, d], ⟨_, 1, [], none, none, none, none, by omega, rfl, by simp, by simp, rfl⟩, ?_⟩
    rintro n ρ ⟨at_, ws, a, b, c, d, h1, rfl, h2, h3, rfl⟩
    have fin : Q (.d (.tuple (ws.map wtD))) := q ws h2 h3
    have hlen : ((ns.map PyData.int).length : Int) = ns.length := by simp
    have hmin : (if (61 : Int) < ((ns.map PyData.int).length : Int) then (61 : Int) else ((ns.map PyData.int).length : Int)) ≤ 61 ∧ (if (61 : Int) < ((ns.map PyData.int).length : Int) then (61 : Int) else ((ns.map PyData.int).length : Int)) ≤ ns.length := by split <;> omega
    conv => whnf
    refine wIf.mk (fun hc => ?_) (fun hc => ?_)
    case refine_2 =>
      ((conv => whnf); repeat' (first | (refine wIf_tt ?_; conv => whnf) | (refine wIf_ff ?_; conv => whnf) | (refine wIf.mk (fun hif => (have hif := of_decide_eq_true hif; ?_)) (fun hif => (have hif := of_decide_eq_false hif; ?_)) <;> (conv => whnf)) | (refine wIf_not ?_) | (refine ⟨(by decide : (_ : Int) ≠ 0), fun w _ hw => ?_⟩; replace hw := hw (by decide); conv => whnf) | (refine ⟨(by decide : (_ : Int) ≠ 0), div_lit (by decide), fun w _ hw => ?_⟩; replace hw := hw (by decide); conv => whnf) | (refine eq_rD ?_; conv => whnf) | (refine eq_ts ?_; conv => whnf) | (refine ne_ts ?_; conv => whnf) | (refine ne_rD ?_; conv => whnf) | (refine eq_vD ?_; conv => whnf) | (refine ne_vD ?_; conv => whnf) | (refine ⟨isi_ok rfl, ?_⟩; conv => whnf) | (apply wMulS.mk; (first | exact mul_l (by decide) (by decide) | exact mul_r (by decide) (by decide) | exact mul_ok (by l_ints) (by l_ints) (by decide)); conv => whnf) | (refine ⟨⟨by decide, by decide, by decide⟩, ?_⟩; conv => whnf) | (refine ⟨⟨by decide, by decide, by omega⟩, ?_⟩; conv => whnf) | (refine ⟨small_sz (Nat.le_of_ble_eq_true rfl), ?_⟩; conv => whnf) | fail))
      exact fin
    have hc : at_ < _ := of_decide_eq_true hc
    conv => whnf
    refine wIf.mk (fun hd => ?_) (fun hd => ?_)
    case refine_2 =>
      ((conv => whnf); repeat' (first | (refine wIf_tt ?_; conv => whnf) | (refine wIf_ff ?_; conv => whnf) | (refine wIf.mk (fun hif => (have hif := of_decide_eq_true hif; ?_)) (fun hif => (have hif := of_decide_eq_false hif; ?_)) <;> (conv => whnf)) | (refine wIf_not ?_) | (refine ⟨(by decide : (_ : Int) ≠ 0), fun w _ hw => ?_⟩; replace hw := hw (by decide); conv => whnf) | (refine ⟨(by decide : (_ : Int) ≠ 0), div_lit (by decide), fun w _ hw => ?_⟩; replace hw := hw (by decide); conv => whnf) | (refine eq_rD ?_; conv => whnf) | (refine eq_ts ?_; conv => whnf) | (refine ne_ts ?_; conv => whnf) | (refine ne_rD ?_; conv => whnf) | (refine eq_vD ?_; conv => whnf) | (refine ne_vD ?_; conv => whnf) | (refine ⟨isi_ok rfl, ?_⟩; conv => whnf) | (apply wMulS.mk; (first | exact mul_l (by decide) (by decide) | exact mul_r (by decide) (by decide) | exact mul_ok (by l_ints) (by l_ints) (by decide)); conv => whnf) | (refine ⟨⟨by decide, by decide, by decide⟩, ?_⟩; conv => whnf) | (refine ⟨⟨by decide, by decide, by omega⟩, ?_⟩; conv => whnf) | (refine ⟨small_sz (Nat.le_of_ble_eq_true rfl), ?_⟩; conv => whnf) | fail))
      exact fin
    have hd : ((ws.map wtD).length : Int) < 12 := of_decide_eq_true hd
    have hd : ws.length < 12 := by simp at hd; omega
    have hat : at_ < 61 ∧ at_ < ns.length := ⟨Int.lt_of_lt_of_le hc hmin.1, Int.lt_of_lt_of_le hc hmin.2⟩
    obtain ⟨x, hx, a1⟩ := atI_maps (f := PyData.int) (xs := ns) (i := at_) (by omega) (by omega)
    conv => whnf
    rw [a1]
    conv => whnf
    refine dr x 7 most _ ⟨by decide, by decide, by omega⟩ fun sz hs1 hs2 => ?_
    ((conv => whnf); repeat' (first | (refine wIf_tt ?_; conv => whnf) | (refine wIf_ff ?_; conv => whnf) | (refine wIf.mk (fun hif => (have hif := of_decide_eq_true hif; ?_)) (fun hif => (have hif := of_decide_eq_false hif; ?_)) <;> (conv => whnf)) | (refine wIf_not ?_) | (refine ⟨(by decide : (_ : Int) ≠ 0), fun w _ hw => ?_⟩; replace hw := hw (by decide); conv => whnf) | (refine ⟨(by decide : (_ : Int) ≠ 0), div_lit (by decide), fun w _ hw => ?_⟩; replace hw := hw (by decide); conv => whnf) | (refine eq_rD ?_; conv => whnf) | (refine eq_ts ?_; conv => whnf) | (refine ne_ts ?_; conv => whnf) | (refine ne_rD ?_; conv => whnf) | (refine eq_vD ?_; conv => whnf) | (refine ne_vD ?_; conv => whnf) | (refine ⟨isi_ok rfl, ?_⟩; conv => whnf) | (apply wMulS.mk; (first | exact mul_l (by decide) (by decide) | exact mul_r (by decide) (by decide) | exact mul_ok (by l_ints) (by l_ints) (by decide)); conv => whnf) | (refine ⟨⟨by decide, by decide, by decide⟩, ?_⟩; conv => whnf) | (refine ⟨⟨by decide, by decide, by omega⟩, ?_⟩; conv => whnf) | (refine ⟨small_sz (Nat.le_of_ble_eq_true rfl), ?_⟩; conv => whnf) | fail))
    obtain ⟨j, hj⟩ : ∃ j, j = (fun i j : Int => if j < i then j else i) (at_ + (1 + sz)) 61 := ⟨_, rfl⟩
    have hj1 : at_ + 1 ≤ j ∧ j - at_ ≤ 12 := by
      rw [hj]
      show _ ≤ (if (61 : Int) < _ then _ else _) ∧ (if (61 : Int) < _ then _ else _) - at_ ≤ 12
      split <;> omega
    rw [← hj]
    obtain ⟨cs, ec, lc, _⟩ := cut_le (f := PyData.int) ns at_ j (by omega) (by omega)
    have lc0 : cs ≠ [] := by
      obtain ⟨at0, rfl⟩ := Int.eq_ofNat_of_zero_le (show 0 ≤ at_ by omega)
      obtain ⟨j0, rfl⟩ := Int.eq_ofNat_of_zero_le (show 0 ≤ j by omega)
      have := cut_gen (ns.map PyData.int) at0 j0
      intro h
      subst h
      have h5 := congrArg List.length (ec.symm.trans this)
      rw [List.length_take, List.length_drop, List.length_map, List.length_map] at h5
      simp only [List.length_nil] at h5
      omega
    rw [ec]
    have vv : ∀ (c : Int) (W : R → Prop) {X : Nat → Prop}, (∀ v, VB 140 v → W (.d (vD v))) → G 44 [.int c, .int far, lineD none] W X := fun c W _ h => gC g44 ⟨c, far, none, rfl, by omega, by omega, hLL, h⟩
    refine lc_each (t := .nm 9) PyData.int vD (VB 140) cs (fun y _ k hk => ?_) fun vs hl hv => ?_
    · conv => whnf
      refine vv _ _ fun v1 hv1 => ?_
      conv => whnf
      exact hk _ hv1
    have ne : vs ≠ [] := by intro h; subst h; exact lc0 (List.length_eq_zero_iff.mp hl.symm)
    ((conv => whnf); repeat' (first | (rw [a1]; conv => whnf) | (refine dr _ _ _ _ (by decide) fun z hz1 hz2 => ?_; conv => whnf) | (refine vv _ _ fun v1 hv1 => ?_; conv => whnf) | (refine wIf_tt ?_; conv => whnf) | (refine wIf_ff ?_; conv => whnf) | (refine wIf.mk (fun hif => (have hif := of_decide_eq_true hif; ?_)) (fun hif => (have hif := of_decide_eq_false hif; ?_)) <;> (conv => whnf)) | (refine wIf_not ?_) | (refine ⟨(by decide : (_ : Int) ≠ 0), fun w _ hw => ?_⟩; replace hw := hw (by decide); conv => whnf) | (refine ⟨(by decide : (_ : Int) ≠ 0), div_lit (by decide), fun w _ hw => ?_⟩; replace hw := hw (by decide); conv => whnf) | (refine eq_rD ?_; conv => whnf) | (refine eq_ts ?_; conv => whnf) | (refine ne_ts ?_; conv => whnf) | (refine ne_rD ?_; conv => whnf) | (refine eq_vD ?_; conv => whnf) | (refine ne_vD ?_; conv => whnf) | (refine ⟨isi_ok rfl, ?_⟩; conv => whnf) | (apply wMulS.mk; (first | exact mul_l (by decide) (by decide) | exact mul_r (by decide) (by decide) | exact mul_ok (by l_ints) (by l_ints) (by decide)); conv => whnf) | (refine ⟨⟨by decide, by decide, by decide⟩, ?_⟩; conv => whnf) | (refine ⟨⟨by decide, by decide, by omega⟩, ?_⟩; conv => whnf) | (refine ⟨small_sz (Nat.le_of_ble_eq_true rfl), ?_⟩; conv => whnf) | fail))
    · refine ⟨by simp; exact small_lt (by omega), ?_⟩
      conv => whnf
      refine ⟨_, ?_, _, ws ++ [(vs, v1)], _, _, _, _, ?_, rfl, by simp; omega, fun w hw => ?_, by rw [List.map_append]; rfl⟩
      · omega
      · omega
      · rcases List.mem_append.mp hw with h | h
        · exact h3 w h
        · rw [List.mem_singleton.mp h]
          exact ⟨ne, by simp; omega, hv, hv1⟩
    · refine ⟨by simp; exact small_lt (by omega), ?_⟩
      conv => whnf
      refine ⟨_, ?_, _, ws ++ [(vs, (0, 0))], _, _, _, _, ?_, rfl, by simp; omega, fun w hw => ?_, by rw [List.map_append]; rfl⟩
      · omega
      · omega
      · rcases List.mem_append.mp hw with h | h
        · exact h3 w h
        · rw [List.mem_singleton.mp h]
          exact ⟨ne, by simp; omega, hv, ⟨(by decide : Bd 140 0), (by decide : Bd 140 0)⟩⟩
end DL
end
section
namespace DL
end DL
end
section
namespace DL
end DL
end
section
namespace DL
end DL
end
section
namespace DL
end DL
end
section
namespace DL
end DL
end
section
namespace DL
end DL
end
section
namespace DL
end DL
end
section
namespace DL
end DL
end
section
namespace DL
end DL
end
section
set_option maxRecDepth 100000
set_option maxHeartbeats 4000000
set_option exponentiation.threshold 100000
namespace DL
open PySem L2
local macro_rules | `(tactic| l_ints) => `(tactic| first | (assumption) | (apply Bd.neg; l_ints) | (apply Bd.mul <;> l_ints) | (exact bd40 (by omega) (by omega)) | (apply Bd.add <;> l_ints) | (apply Bd.sub <;> l_ints) | (exact bd130 (by omega) (by omega)) | (exact bd210 (by omega) (by omega)) | (exact bd_self _) | fail)
def okS : Nat → D → Prop
  | 0, _ => False
  | n + 1, .tuple ds => ds.length ≤ 100000 ∧ ∀ d ∈ ds, okS n d
  | _ + 1, .int _ => True
  | _ + 1, .none => True
  | _ + 1, .bool _ => True
  | _ + 1, .str _ => True
  | _ + 1, _ => False
def sp_law_same (n : Nat) : DSp := fun ds Q X => ∃ d, ds = [d, d] ∧ okS n d ∧ Q (.d (.bool true))
theorem no_law_same : ∀ ds Q X, ¬ sp_law_same 0 ds Q X := fun _ _ _ ⟨_, _, h, _⟩ => h
abbrev Pr := List Vec × Int
structure PrOk (k n : Nat) (p : Pr) : Prop where
  ne : p.1 ≠ []
  len : p.1.length ≤ n
  vb : ∀ v ∈ p.1, VB k v
end DL
end
section
set_option maxRecDepth 100000
set_option maxHeartbeats 4000000
set_option exponentiation.threshold 100000
namespace DL
open PySem L2
local macro_rules | `(tactic| l_ints) => `(tactic| first | (assumption) | (apply Bd.neg; l_ints) | (apply Bd.mul <;> l_ints) | (exact bd40 (by omega) (by omega)) | (apply Bd.add <;> l_ints) | (apply Bd.sub <;> l_ints) | (exact bd130 (by omega) (by omega)) | (exact bd210 (by omega) (by omega)) | (exact bd_self _) | fail)
theorem rat_gcd' (r : Rat) : Int.gcd r.num r.den = 1 := by
  have := r.reduced
  unfold Nat.Coprime at this
  exact this
abbrev Sh := Nat × Rat
def shD (s : Sh) : D := .tuple [.int s.1, rD s.2]
def sharesD (ss : List Sh) : D := .tuple (ss.map shD)
structure ShOk (k n : Nat) (s : Sh) : Prop where
  lt : s.1 < n
  pos : 0 < s.2.num
  rb : RB k s.2
structure Good (k n : Nat) (ss : List Sh) : Prop where
  len : ss.length ≤ 120
  ok : ∀ s ∈ ss, ShOk k n s
  up : ss.Pairwise fun a b => a.1 < b.1
theorem Good.mono {k m n : Nat} {ss : List Sh} (h : Good k n ss) (l : k ≤ m) : Good m n ss := ⟨h.len, fun s hs => let o := h.ok s hs; ⟨o.lt, o.pos, o.rb.mono l⟩, h.up⟩
def prd (ss : List Sh) : Int := ss.foldl (fun b s => b * s.2.den) 1
theorem prd_snoc (ss : List Sh) (s : Sh) : prd (ss ++ [s]) = prd ss * s.2.den := by unfold prd; rw [List.foldl_append]; rfl
def tot (f : Nat → Int) (B : Int) (ss : List Sh) : Int := (ss.map fun s => f s.1 * s.2.num * (B / s.2.den)).sum
def qtot (f : Nat → Int) (ss : List Sh) : Rat := ss.foldl (fun a s => a + (f s.1 : Rat) * s.2) 0
theorem qtot_snoc (f : Nat → Int) (ss : List Sh) (s : Sh) : qtot f (ss ++ [s]) = qtot f ss + (f s.1 : Rat) * s.2 := by unfold qtot; rw [List.foldl_append]; rfl
theorem tot_snoc (f : Nat → Int) (B : Int) (ss : List Sh) (s : Sh) : tot f B (ss ++ [s]) = tot f B ss + f s.1 * s.2.num * (B / s.2.den) := by
  unfold tot
  rw [List.map_append, List.sum_append]
  simp
theorem snoc_ind {α : Type} {P : List α → Prop} (h0 : P []) (h1 : ∀ xs x, P xs → P (xs ++ [x])) (xs : List α) : P xs := by
  have : ∀ ys : List α, P ys.reverse := fun ys => by
    induction ys with
    | nil => exact h0
    | cons y ys ih => rw [List.reverse_cons]; exact h1 _ _ ih
  have h := this xs.reverse
  rwa [List.reverse_reverse] at h
theorem prd_pos (ss : List Sh) : 0 < prd ss := by
  refine snoc_ind (P := fun ss => 0 < prd ss) (by decide) (fun xs x h => ?_) ss
  rw [prd_snoc]
  exact Int.mul_pos h (by have := x.2.den_pos; omega)
theorem prd_dvd (ss : List Sh) : ∀ s ∈ ss, (s.2.den : Int) ∣ prd ss := by
  refine snoc_ind (P := fun ss => ∀ s ∈ ss, (s.2.den : Int) ∣ prd ss) (by simp) (fun xs x h s hs => ?_) ss
  rw [prd_snoc]
  rcases List.mem_append.mp hs with g | g
  · exact Int.dvd_trans (h s g) ⟨_, rfl⟩
  · rw [List.mem_singleton.mp g]
    exact ⟨prd xs, Int.mul_comm _ _⟩
theorem prd_bd {k : Nat} (ss : List Sh) (h : ∀ s ∈ ss, RB k s.2) : Bd (k * ss.length + 1) (prd ss) := by
  revert h
  refine snoc_ind (P := fun ss => (∀ s ∈ ss, RB k s.2) → Bd (k * ss.length + 1) (prd ss)) (fun _ => by show Bd (0 + 1) (1 : Int); decide) (fun xs x ih h => ?_) ss
  rw [prd_snoc]
  refine ((ih fun s hs => h s (List.mem_append_left _ hs)).mul (h x (by simp)).2).mono ?_
  rw [List.length_append, List.length_singleton, Nat.mul_add, Nat.mul_one]
  omega
theorem divInt_add_same (a b c : Int) (hc : c ≠ 0) : Rat.divInt (a + b) c = Rat.divInt a c + Rat.divInt b c := by
  rw [Rat.divInt_add_divInt _ _ hc hc, ← Int.add_mul]
  exact (Rat.divInt_mul_right hc).symm
theorem term_q (f : Int) (r : Rat) (B : Int) (hB : B ≠ 0) (h : (r.den : Int) ∣ B) : Rat.divInt (f * r.num * (B / r.den)) B = (f : Rat) * r := by
  obtain ⟨c, rfl⟩ := h
  have hd := den_ne r
  have hc : c ≠ 0 := by intro z; subst z; simp at hB
  rw [Int.mul_ediv_cancel_left _ hd, Rat.divInt_mul_right hc]
  have := rat_mul (f : Rat) r
  simpa using this
theorem tot_q (f : Nat → Int) (B : Int) (hB : B ≠ 0) (ss : List Sh) (h : ∀ s ∈ ss, (s.2.den : Int) ∣ B) : Rat.divInt (tot f B ss) B = qtot f ss := by
  revert h
  refine snoc_ind (P := fun ss => (∀ s ∈ ss, (s.2.den : Int) ∣ B) → Rat.divInt (tot f B ss) B = qtot f ss) (fun _ => ?_) (fun xs x ih h => ?_) ss
  · simp [tot, qtot]
  · rw [tot_snoc, qtot_snoc, divInt_add_same _ _ _ hB, ih fun s hs => h s (List.mem_append_left _ hs), term_q _ _ _ hB (h x (by simp))]
theorem tot_le (f : Nat → Int) (a k m : Nat) (hf : ∀ i, Bd a (f i)) (B : Int) (hB : Bd m B) (ss : List Sh) (h : ∀ s ∈ ss, RB k s.2) : (tot f B ss).natAbs ≤ ss.length * 2 ^ (a + k + m) := by
  revert h
  refine snoc_ind (P := fun ss => (∀ s ∈ ss, RB k s.2) → (tot f B ss).natAbs ≤ ss.length * 2 ^ (a + k + m)) (fun _ => by simp [tot]) (fun xs x ih h => ?_) ss
  rw [tot_snoc, List.length_append, List.length_singleton, Nat.add_mul, Nat.one_mul]
  have h1 := ih fun s hs => h s (List.mem_append_left _ hs)
  have h2 : Bd (a + k + m) (f x.1 * x.2.num * (B / x.2.den)) := ((hf _).mul (h x (by simp)).1).mul (ediv_bd _ hB)
  have h2 := Nat.le_of_lt h2
  exact Nat.le_trans (Int.natAbs_add_le _ _) (Nat.add_le_add h1 h2)
theorem tot_bd (f : Nat → Int) (a k m : Nat) (hf : ∀ i, Bd a (f i)) (B : Int) (hB : Bd m B) (ss : List Sh) (hl : ss.length ≤ 120) (h : ∀ s ∈ ss, RB k s.2) : Bd (7 + (a + k + m)) (tot f B ss) := by
  refine Nat.lt_of_le_of_lt (tot_le f a k m hf B hB ss h) ?_
  rw [show (2 : Nat) ^ (7 + (a + k + m)) = 2 ^ 7 * 2 ^ (a + k + m) from Nat.pow_add ..]
  have h7 : ss.length < 2 ^ 7 := by omega
  have h8 : 0 < 2 ^ (a + k + m) := Nat.pow_pos (by decide)
  exact (Nat.mul_lt_mul_right h8).mpr h7
theorem prd_bd2 {k L : Nat} {ss : List Sh} (hl : k * ss.length ≤ L) (h : ∀ s ∈ ss, RB k s.2) : Bd (L + 1) (prd ss) := (prd_bd ss h).mono (by omega)
theorem qtot_rb (f : Nat → Int) (a : Nat) {k L : Nat} (hf : ∀ i, Bd a (f i)) {ss : List Sh} (hn : ss.length ≤ 120) (hl : k * ss.length ≤ L) (h : ∀ s ∈ ss, RB k s.2) : RB (a + k + L + 8) (qtot f ss) := by
  have b := prd_bd2 hl h
  have p := prd_pos ss
  rw [← tot_q f (prd ss) (by omega) ss (prd_dvd ss)]
  exact RB.divInt ((tot_bd f a k _ hf _ b ss hn h).mono (by omega)) (b.mono (by omega)) (by omega)
theorem qtot_pb (f g : Nat → Int) (a : Nat) {k L : Nat} (hf : ∀ i, Bd a (f i)) (hg : ∀ i, Bd a (g i)) {ss : List Sh} (hn : ss.length ≤ 120) (hl : k * ss.length ≤ L) (h : ∀ s ∈ ss, RB k s.2) : PB (a + k + L + 8) (qtot f ss) (qtot g ss) := by
  have b := prd_bd2 hl h
  have p := prd_pos ss
  rw [← tot_q f (prd ss) (by omega) ss (prd_dvd ss), ← tot_q g (prd ss) (by omega) ss (prd_dvd ss)]
  exact PB.low p ((tot_bd f a k _ hf _ b ss hn h).mono (by omega)) ((tot_bd g a k _ hg _ b ss hn h).mono (by omega)) (b.mono (by omega))
theorem qtot_pbW (f g : Nat → Int) {a k w : Nat} (hf : ∀ i, Bd a (f i)) (hg : ∀ i, Bd a (g i)) {ss : List Sh} (hn : ss.length ≤ 120) {W : Int} (hW : 0 < W) (bW : Bd w W) (dv : ∀ s ∈ ss, (s.2.den : Int) ∣ W) (h : ∀ s ∈ ss, RB k s.2) : PB (a + k + w + 8) (qtot f ss) (qtot g ss) := by
  rw [← tot_q f W (by omega) ss dv, ← tot_q g W (by omega) ss dv]
  exact PB.low hW ((tot_bd f a k _ hf _ bW ss hn h).mono (by omega)) ((tot_bd g a k _ hg _ bW ss hn h).mono (by omega)) (bW.mono (by omega))
abbrev Raw := Int × Int × Int
def rwD (r : Raw) : D := .tuple [.int r.1, .tuple [.int r.2.1, .int r.2.2]]
def rowsD (rs : List Raw) : D := .tuple (rs.map rwD)
def raw (s : Sh) : Raw := (s.1, s.2.num, s.2.den)
theorem rowsD_raw (ss : List Sh) : rowsD (ss.map raw) = sharesD ss := by unfold rowsD sharesD; rw [List.map_map]; rfl
def frB (t b : Int) : Bool := decide (1 ≤ t ∧ 1 ≤ b ∧ Int.gcd t b = 1)
def goodB (n : Nat) : Int → List Raw → Bool
  | _, [] => true
  | l, r :: rs => decide (l < r.1 ∧ r.1 < n) && (frB r.2.1 r.2.2 && goodB n r.1 rs)
def rsh (r : Raw) : Sh := (r.1.toNat, Rat.divInt r.2.1 r.2.2)
theorem fr_low {t b : Int} (h : frB t b = true) : (Rat.divInt t b).num = t ∧ ((Rat.divInt t b).den : Int) = b := by
  obtain ⟨h1, h2, h3⟩ := of_decide_eq_true h
  obtain ⟨l1, l2⟩ := low_num (a := t) (b := b) (by omega) 1 (by rw [if_neg (by omega), h3]; rfl)
  rw [← l1, ← l2]
  exact ⟨Int.fdiv_one .., Int.fdiv_one ..⟩
theorem low_fr {t b : Int} (h1 : 1 ≤ t) (h2 : 1 ≤ b) (e1 : (Rat.divInt t b).num = t) (e2 : ((Rat.divInt t b).den : Int) = b) : frB t b = true := decide_eq_true ⟨h1, h2, by
  have := rat_gcd' (Rat.divInt t b)
  rwa [e1, e2] at this⟩
theorem good_raw {n : Nat} : ∀ {rs : List Raw} {l : Int}, -1 ≤ l → goodB n l rs = true → (rs.map rsh).map raw = rs ∧ (∀ s ∈ rs.map rsh, s.1 < n ∧ 0 < s.2.num ∧ l < s.1) ∧ (rs.map rsh).Pairwise fun a b => a.1 < b.1
  | [], _, _, _ => ⟨rfl, by simp, .nil⟩
  | r :: rs, l, hl, h => by
    unfold goodB at h
    rw [Bool.and_eq_true, Bool.and_eq_true] at h
    obtain ⟨h0, h1, h2⟩ := h
    obtain ⟨h3, h4⟩ := of_decide_eq_true h0
    obtain ⟨i1, i2, i3⟩ := good_raw (by omega) h2
    obtain ⟨l1, l2⟩ := fr_low h1
    have hp := (of_decide_eq_true h1).1
    have hh : ((r.1.toNat : Nat) : Int) = r.1 := by omega
    have e1 : (rsh r).1 = r.1.toNat := rfl
    refine ⟨?_, fun s hs => ?_, ?_⟩
    · rw [List.map_cons, List.map_cons, i1]
      congr 1
      show (((r.1.toNat : Nat) : Int), (Rat.divInt r.2.1 r.2.2).num, ((Rat.divInt r.2.1 r.2.2).den : Int)) = r
      rw [hh, l1, l2]
    · rw [List.map_cons] at hs
      rcases List.mem_cons.mp hs with e | e
      · rw [e]
        refine ⟨by rw [e1]; omega, ?_, by rw [e1]; omega⟩
        show 0 < (Rat.divInt r.2.1 r.2.2).num
        rw [l1]
        omega
      · obtain ⟨a, b, c⟩ := i2 s e
        exact ⟨a, b, by omega⟩
    · rw [List.map_cons]
      exact List.pairwise_cons.mpr ⟨fun s hs => by have := (i2 s hs).2.2; rw [e1]; omega, i3⟩
theorem raw_good {n : Nat} : ∀ {ss : List Sh} {l : Int}, (∀ s ∈ ss, s.1 < n ∧ 0 < s.2.num ∧ l < s.1) → (ss.Pairwise fun a b => a.1 < b.1) → goodB n l (ss.map raw) = true
  | [], _, _, _ => rfl
  | s :: ss, l, h, up => by
    obtain ⟨h1, h2, h3⟩ := h s (by simp)
    obtain ⟨u1, u2⟩ := List.pairwise_cons.mp up
    rw [List.map_cons]
    unfold goodB
    rw [Bool.and_eq_true, Bool.and_eq_true]
    have hd := s.2.den_pos
    refine ⟨decide_eq_true ⟨h3, ?_⟩, ?_, raw_good (fun t ht => ⟨(h t (List.mem_cons_of_mem _ ht)).1, (h t (List.mem_cons_of_mem _ ht)).2.1, ?_⟩) u2⟩
    · show (s.1 : Int) < n
      omega
    · have e := Rat.num_divInt_den s.2
      exact low_fr (t := s.2.num) (b := s.2.den) (by omega) (by omega) (by rw [e]) (by rw [e])
    · have := u1 t ht
      show (s.1 : Int) < t.1
      omega
theorem Good.raw {k n : Nat} {ss : List Sh} (h : Good k n ss) : goodB n (-1) (ss.map raw) = true := raw_good (fun s hs => ⟨(h.ok s hs).lt, (h.ok s hs).pos, by omega⟩) h.up
theorem good_of {k n : Nat} {rs : List Raw} (hl : rs.length ≤ 120) (hb : ∀ r ∈ rs, Bd k r.2.1 ∧ Bd k r.2.2) (h : goodB n (-1) rs = true) : ∃ ss, rs = ss.map raw ∧ Good k n ss := by
  obtain ⟨h1, h2, h3⟩ := good_raw (by omega) h
  refine ⟨rs.map rsh, h1.symm, ⟨by simpa using hl, fun s hs => ?_, h3⟩⟩
  obtain ⟨a, b, c⟩ := h2 s hs
  refine ⟨a, b, ?_⟩
  have hm : DL.raw s ∈ rs := by rw [← h1]; exact List.mem_map_of_mem hs
  exact hb _ hm
def vAt (vs : List Vec) (i : Nat) : Vec := vs.getD i (0, 0)
theorem vAt_bd {k : Nat} {vs : List Vec} (h : ∀ v ∈ vs, VB k v) (i : Nat) : VB k (vAt vs i) := by
  unfold vAt
  rw [List.getD_eq_getElem?_getD]
  cases e : vs[i]? with
  | none => exact ⟨by unfold Bd; exact Nat.pow_pos (by decide), by unfold Bd; exact Nat.pow_pos (by decide)⟩
  | some v => exact h v (List.mem_of_getElem? e)
theorem atI_v {vs : List Vec} {i : Nat} (h : i < vs.length) : atI (vs.map vD) (i : Int) = some (vD (vAt vs i)) := by
  rw [atI_at (by omega) (by rw [List.length_map]; omega)]
  rw [Int.toNat_natCast, List.getElem?_map]
  unfold vAt
  rw [List.getD_eq_getElem?_getD, List.getElem?_eq_getElem h]
  rfl
end DL
end
section
namespace DL
def m_fraction_stands : Ss := (.cons (.ifs (.or (.cmp .Lt (.ix (.v 0) (.int 0)) (.int 1)) (.cmp .Lt (.ix (.v 0) (.int 1)) (.int 1))) (.cons (.ret (.bl false)) .nil) .nil) (.cons (.ret (.cmp .Eq (.call 1 (.cons (.ix (.v 0) (.int 0)) (.cons (.ix (.v 0) (.int 1)) .nil))) (.v 0))) .nil))
end DL
end
section
namespace DL
def m_look_at_shares : Ss := (.cons (.set 2 (.neg (.int 1))) (.cons (.for_ (.tp [3, 4]) (.ex (.v 1)) (.cons (.ifs (.or (.cmp .LtE (.v 3) (.v 2)) (.cmp .GtE (.v 3) (.bi .len (.cons (.v 0) .nil)))) (.cons (.rais 3) .nil) .nil) (.cons (.ifs (.not (.call 51 (.cons (.v 4) .nil))) (.cons (.rais 3) .nil) .nil) (.cons (.set 2 (.v 3)) .nil)))) .nil))
end DL
end
section
namespace DL
def m_heading_times : Ss := (.cons (.ret (.call 20 (.cons (.call 10 (.cons (.tup (.cons (.ix (.v 0) (.int 0)) (.cons (.int 1) .nil))) (.cons (.v 1) .nil))) (.cons (.call 10 (.cons (.tup (.cons (.ix (.v 0) (.int 1)) (.cons (.int 1) .nil))) (.cons (.v 1) .nil))) .nil)))) .nil)
end DL
end
section
namespace DL
def m_shares_end : Ss := (.cons (.ex (.call 52 (.cons (.v 0) (.cons (.v 1) .nil)))) (.cons (.set 2 (.tup (.cons (.int 0) (.cons (.int 0) (.cons (.int 1) .nil))))) (.cons (.for_ (.tp [3, 4]) (.ex (.v 1)) (.cons (.set 2 (.call 23 (.cons (.v 2) (.cons (.call 53 (.cons (.ix (.v 0) (.v 3)) (.cons (.v 4) .nil))) .nil)))) .nil)) (.cons (.ret (.v 2)) .nil))))
end DL
end
section
namespace DL
def m_shares_sum : Ss := (.cons (.set 1 (.tup (.cons (.int 0) (.cons (.int 1) .nil)))) (.cons (.for_ (.tp [2, 3]) (.ex (.v 0)) (.cons (.set 1 (.call 8 (.cons (.v 1) (.cons (.v 3) .nil)))) .nil)) (.cons (.ret (.v 1)) .nil)))
end DL
end
section
namespace DL
end DL
end
section
namespace DL
end DL
end
section
namespace DL
end DL
end
section
namespace DL
end DL
end
section
namespace DL
end DL
end
section
namespace DL
end DL
end
section
set_option maxRecDepth 100000
set_option maxHeartbeats 4000000
set_option exponentiation.threshold 100000
namespace DL
open PySem L2
local macro_rules | `(tactic| l_ints) => `(tactic| first | (assumption) | (apply Bd.neg; l_ints) | (apply Bd.mul <;> l_ints) | (exact bd40 (by omega) (by omega)) | (apply Bd.add <;> l_ints) | (apply Bd.sub <;> l_ints) | (exact bd130 (by omega) (by omega)) | (exact bd210 (by omega) (by omega)) | (exact bd_self _) | fail)
def sp_fraction_stands : DSp := fun ds Q X => ∃ t b : Int, ds = [.tuple [.int t, .int b]] ∧ Bd 8999 b ∧ Q (.d (.bool (frB t b)))
theorem p_fraction_stands {G : Nat → DSp} (g1 : G 1 = sp_lowest) : FnW G 1 1 m_fraction_stands sp_fraction_stands := by
  intro ds Q X ⟨t, b, e, h2, q⟩
  subst e
  refine ⟨rfl, ?_⟩
  conv => whnf
  refine wIf.mk (fun hc => ?_) (fun hc => ?_)
  · have hc := of_decide_eq_true hc
    ((conv => whnf); repeat' (first | (refine wIf_tt ?_; conv => whnf) | (refine wIf_ff ?_; conv => whnf) | (refine wIf.mk (fun hif => (have hif := of_decide_eq_true hif; ?_)) (fun hif => (have hif := of_decide_eq_false hif; ?_)) <;> (conv => whnf)) | (refine wIf_not ?_) | (refine ⟨(by decide : (_ : Int) ≠ 0), fun w _ hw => ?_⟩; replace hw := hw (by decide); conv => whnf) | (refine ⟨(by decide : (_ : Int) ≠ 0), div_lit (by decide), fun w _ hw => ?_⟩; replace hw := hw (by decide); conv => whnf) | (refine eq_rD ?_; conv => whnf) | (refine eq_ts ?_; conv => whnf) | (refine ne_ts ?_; conv => whnf) | (refine ne_rD ?_; conv => whnf) | (refine eq_vD ?_; conv => whnf) | (refine ne_vD ?_; conv => whnf) | (refine ⟨isi_ok rfl, ?_⟩; conv => whnf) | (apply wMulS.mk; (first | exact mul_l (by decide) (by decide) | exact mul_r (by decide) (by decide) | exact mul_ok (by l_ints) (by l_ints) (by decide)); conv => whnf) | (refine ⟨⟨by decide, by decide, by decide⟩, ?_⟩; conv => whnf) | (refine ⟨⟨by decide, by decide, by omega⟩, ?_⟩; conv => whnf) | (refine ⟨small_sz (Nat.le_of_ble_eq_true rfl), ?_⟩; conv => whnf) | fail))
    have : frB t b = false := decide_eq_false (by omega)
    rw [this] at q
    exact q
  · have hc := of_decide_eq_false hc
    conv => whnf
    refine wIf.mk (fun hd => ?_) (fun hd => ?_)
    · have hd := of_decide_eq_true hd
      ((conv => whnf); repeat' (first | (refine wIf_tt ?_; conv => whnf) | (refine wIf_ff ?_; conv => whnf) | (refine wIf.mk (fun hif => (have hif := of_decide_eq_true hif; ?_)) (fun hif => (have hif := of_decide_eq_false hif; ?_)) <;> (conv => whnf)) | (refine wIf_not ?_) | (refine ⟨(by decide : (_ : Int) ≠ 0), fun w _ hw => ?_⟩; replace hw := hw (by decide); conv => whnf) | (refine ⟨(by decide : (_ : Int) ≠ 0), div_lit (by decide), fun w _ hw => ?_⟩; replace hw := hw (by decide); conv => whnf) | (refine eq_rD ?_; conv => whnf) | (refine eq_ts ?_; conv => whnf) | (refine ne_ts ?_; conv => whnf) | (refine ne_rD ?_; conv => whnf) | (refine eq_vD ?_; conv => whnf) | (refine ne_vD ?_; conv => whnf) | (refine ⟨isi_ok rfl, ?_⟩; conv => whnf) | (apply wMulS.mk; (first | exact mul_l (by decide) (by decide) | exact mul_r (by decide) (by decide) | exact mul_ok (by l_ints) (by l_ints) (by decide)); conv => whnf) | (refine ⟨⟨by decide, by decide, by decide⟩, ?_⟩; conv => whnf) | (refine ⟨⟨by decide, by decide, by omega⟩, ?_⟩; conv => whnf) | (refine ⟨small_sz (Nat.le_of_ble_eq_true rfl), ?_⟩; conv => whnf) | fail))
      have : frB t b = false := decide_eq_false (by omega)
      rw [this] at q
      exact q
    · have hd := of_decide_eq_false hd
      conv => whnf
      refine gC g1 ⟨t, b, rfl, low_ok h2, fun z => by omega, fun _ => ?_⟩
      conv => whnf
      refine eq_vD (a := (Rat.divInt t b).num) (b := (Rat.divInt t b).den) (c := t) (d := b) ?_
      have e : frB t b = decide (((Rat.divInt t b).num, ((Rat.divInt t b).den : Int)) = (t, b)) := by
        by_cases c : frB t b = true
        · obtain ⟨e1, e2⟩ := fr_low c
          rw [c, e1, e2, decide_eq_true rfl]
        · rw [Bool.not_eq_true] at c
          rw [c, decide_eq_false]
          intro z
          rw [Prod.mk.injEq] at z
          rw [low_fr (by omega) (by omega) z.1 z.2] at c
          cases c
      rw [e] at q
      exact q
def sp_look_at_shares : DSp := fun ds Q X => ∃ (vs : List Vec) (rs : List Raw), ds = [windD vs, rowsD rs] ∧ (∀ r ∈ rs, Bd 8999 r.2.2) ∧ (goodB vs.length (-1) rs = true → Q (.d .none)) ∧ (goodB vs.length (-1) rs = false → X 3)
theorem p_look_at_shares {G : Nat → DSp} (g51 : G 51 = sp_fraction_stands) : FnW G 5 2 m_look_at_shares sp_look_at_shares := by
  intro ds Q X ⟨vs, rs, e, hb, q, hx⟩
  subst e
  refine ⟨rfl, ?_⟩
  have hlen : ((vs.map vD).length : Int) = vs.length := by simp
  ((conv => whnf); repeat' (first | (refine wIf_tt ?_; conv => whnf) | (refine wIf_ff ?_; conv => whnf) | (refine wIf.mk (fun hif => (have hif := of_decide_eq_true hif; ?_)) (fun hif => (have hif := of_decide_eq_false hif; ?_)) <;> (conv => whnf)) | (refine wIf_not ?_) | (refine ⟨(by decide : (_ : Int) ≠ 0), fun w _ hw => ?_⟩; replace hw := hw (by decide); conv => whnf) | (refine ⟨(by decide : (_ : Int) ≠ 0), div_lit (by decide), fun w _ hw => ?_⟩; replace hw := hw (by decide); conv => whnf) | (refine eq_rD ?_; conv => whnf) | (refine eq_ts ?_; conv => whnf) | (refine ne_ts ?_; conv => whnf) | (refine ne_rD ?_; conv => whnf) | (refine eq_vD ?_; conv => whnf) | (refine ne_vD ?_; conv => whnf) | (refine ⟨isi_ok rfl, ?_⟩; conv => whnf) | (apply wMulS.mk; (first | exact mul_l (by decide) (by decide) | exact mul_r (by decide) (by decide) | exact mul_ok (by l_ints) (by l_ints) (by decide)); conv => whnf) | (refine ⟨⟨by decide, by decide, by decide⟩, ?_⟩; conv => whnf) | (refine ⟨⟨by decide, by decide, by omega⟩, ?_⟩; conv => whnf) | (refine ⟨small_sz (Nat.le_of_ble_eq_true rfl), ?_⟩; conv => whnf) | fail))
  refine ⟨rfl, ?_⟩
  refine forLoop_ind (fun ds ρ => ∃ (l : Int) (qs : List Raw) (x y : Option DL.R), ds = qs.map rwD ∧ (∀ r ∈ qs, Bd 8999 r.2.2) ∧ goodB vs.length (-1) rs = goodB vs.length l qs ∧ ρ = [some (.d (windD vs)), some (.d (rowsD rs)), some (.d (.int l)), x, y]) ?_ ?_ _ _ ⟨-1, rs, none, none, rfl, hb, rfl, rfl⟩
  · rintro ρ ⟨l, qs, x, y, e1, e2, e3, rfl⟩
    have : qs = [] := by simpa using e1.symm
    subst this
    conv => whnf
    exact q e3
  rintro d ds ρ ⟨l, qs, x, y, e1, e2, e3, rfl⟩ nx hnx
  cases qs with
  | nil => cases e1
  | cons s qs =>
    cases e1
    have bad : (l < s.1 ∧ s.1 < vs.length → frB s.2.1 s.2.2 = true → False) → X 3 := fun h => hx (by
      rw [e3]
      unfold goodB
      by_cases c : l < s.1 ∧ s.1 < vs.length
      · have : frB s.2.1 s.2.2 = false := by
          cases z : frB s.2.1 s.2.2 with
          | true => exact (h c z).elim
          | false => rfl
        rw [this]
        simp
      · rw [decide_eq_false c]
        rfl)
    conv => whnf
    refine wIf.mk (fun hc => ?_) (fun hc => ?_)
    · have hc := of_decide_eq_true hc
      ((conv => whnf); repeat' (first | (refine wIf_tt ?_; conv => whnf) | (refine wIf_ff ?_; conv => whnf) | (refine wIf.mk (fun hif => (have hif := of_decide_eq_true hif; ?_)) (fun hif => (have hif := of_decide_eq_false hif; ?_)) <;> (conv => whnf)) | (refine wIf_not ?_) | (refine ⟨(by decide : (_ : Int) ≠ 0), fun w _ hw => ?_⟩; replace hw := hw (by decide); conv => whnf) | (refine ⟨(by decide : (_ : Int) ≠ 0), div_lit (by decide), fun w _ hw => ?_⟩; replace hw := hw (by decide); conv => whnf) | (refine eq_rD ?_; conv => whnf) | (refine eq_ts ?_; conv => whnf) | (refine ne_ts ?_; conv => whnf) | (refine ne_rD ?_; conv => whnf) | (refine eq_vD ?_; conv => whnf) | (refine ne_vD ?_; conv => whnf) | (refine ⟨isi_ok rfl, ?_⟩; conv => whnf) | (apply wMulS.mk; (first | exact mul_l (by decide) (by decide) | exact mul_r (by decide) (by decide) | exact mul_ok (by l_ints) (by l_ints) (by decide)); conv => whnf) | (refine ⟨⟨by decide, by decide, by decide⟩, ?_⟩; conv => whnf) | (refine ⟨⟨by decide, by decide, by omega⟩, ?_⟩; conv => whnf) | (refine ⟨small_sz (Nat.le_of_ble_eq_true rfl), ?_⟩; conv => whnf) | fail))
      exact bad fun h _ => by omega
    have hc := of_decide_eq_false hc
    conv => whnf
    refine wIf.mk (fun hd => ?_) (fun hd => ?_)
    · have hd := of_decide_eq_true hd
      ((conv => whnf); repeat' (first | (refine wIf_tt ?_; conv => whnf) | (refine wIf_ff ?_; conv => whnf) | (refine wIf.mk (fun hif => (have hif := of_decide_eq_true hif; ?_)) (fun hif => (have hif := of_decide_eq_false hif; ?_)) <;> (conv => whnf)) | (refine wIf_not ?_) | (refine ⟨(by decide : (_ : Int) ≠ 0), fun w _ hw => ?_⟩; replace hw := hw (by decide); conv => whnf) | (refine ⟨(by decide : (_ : Int) ≠ 0), div_lit (by decide), fun w _ hw => ?_⟩; replace hw := hw (by decide); conv => whnf) | (refine eq_rD ?_; conv => whnf) | (refine eq_ts ?_; conv => whnf) | (refine ne_ts ?_; conv => whnf) | (refine ne_rD ?_; conv => whnf) | (refine eq_vD ?_; conv => whnf) | (refine ne_vD ?_; conv => whnf) | (refine ⟨isi_ok rfl, ?_⟩; conv => whnf) | (apply wMulS.mk; (first | exact mul_l (by decide) (by decide) | exact mul_r (by decide) (by decide) | exact mul_ok (by l_ints) (by l_ints) (by decide)); conv => whnf) | (refine ⟨⟨by decide, by decide, by decide⟩, ?_⟩; conv => whnf) | (refine ⟨⟨by decide, by decide, by omega⟩, ?_⟩; conv => whnf) | (refine ⟨small_sz (Nat.le_of_ble_eq_true rfl), ?_⟩; conv => whnf) | fail))
      exact bad fun h _ => by omega
    have hd := of_decide_eq_false hd
    conv => whnf
    refine gC g51 ⟨_, _, rfl, e2 s (by simp), ?_⟩
    conv => whnf
    refine wIf_not ?_
    refine wIf.mk (fun hf => ?_) (fun hf => ?_)
    · conv => whnf
      refine hnx _ ⟨s.1, qs, _, _, rfl, fun r hr => e2 r (List.mem_cons_of_mem _ hr), ?_, rfl⟩
      rw [e3]
      show (decide (l < s.1 ∧ s.1 < vs.length) && (frB s.2.1 s.2.2 && goodB vs.length s.1 qs)) = _
      rw [hf, decide_eq_true (by omega)]
      simp
    · conv => whnf
      exact bad fun _ h => by rw [hf] at h; cases h
def sp_heading_times : DSp := fun ds Q X => ∃ (v : Vec) (r : Rat) (a k : Nat), ds = [vD v, rD r] ∧ VB a v ∧ RB k r ∧ 1 ≤ a ∧ 2 * (a + k) ≤ 8990 ∧ Q (.d (PD ((v.1 : Rat) * r) ((v.2 : Rat) * r)))
theorem rb_int {k : Nat} {x : Int} (h : Bd k x) (hk : 1 ≤ k) : RB k (x : Rat) := ⟨h, Bd.mono (show Bd 1 ((1 : Nat) : Int) by decide) hk⟩
theorem p_heading_times {G : Nat → DSp} (g20 : G 20 = sp_place_of) (g10 : G 10 = sp_multiplied) : FnW G 2 2 m_heading_times sp_heading_times := by
  intro ds Q X ⟨v, r, a, k, e, h1, h2, a1, hk, q⟩
  subst e
  refine ⟨rfl, ?_⟩
  have b1 := rb_int h1.1 a1
  have b2 := rb_int h1.2 a1
  ((conv => whnf); repeat' (first | (refine wIf_tt ?_; conv => whnf) | (refine wIf_ff ?_; conv => whnf) | (refine wIf.mk (fun hif => (have hif := of_decide_eq_true hif; ?_)) (fun hif => (have hif := of_decide_eq_false hif; ?_)) <;> (conv => whnf)) | (refine wIf_not ?_) | (refine ⟨(by decide : (_ : Int) ≠ 0), fun w _ hw => ?_⟩; replace hw := hw (by decide); conv => whnf) | (refine ⟨(by decide : (_ : Int) ≠ 0), div_lit (by decide), fun w _ hw => ?_⟩; replace hw := hw (by decide); conv => whnf) | (refine eq_rD ?_; conv => whnf) | (refine eq_ts ?_; conv => whnf) | (refine ne_ts ?_; conv => whnf) | (refine ne_rD ?_; conv => whnf) | (refine eq_vD ?_; conv => whnf) | (refine ne_vD ?_; conv => whnf) | (refine ⟨isi_ok rfl, ?_⟩; conv => whnf) | (apply wMulS.mk; (first | exact mul_l (by decide) (by decide) | exact mul_r (by decide) (by decide) | exact mul_ok (by l_ints) (by l_ints) (by decide)); conv => whnf) | (refine ⟨⟨by decide, by decide, by decide⟩, ?_⟩; conv => whnf) | (refine ⟨⟨by decide, by decide, by omega⟩, ?_⟩; conv => whnf) | (refine ⟨small_sz (Nat.le_of_ble_eq_true rfl), ?_⟩; conv => whnf) | fail))
  refine gC g10 ⟨(v.1 : Rat), r, a, k, rfl, b1, h2, by omega, ?_⟩
  ((conv => whnf); repeat' (first | (refine wIf_tt ?_; conv => whnf) | (refine wIf_ff ?_; conv => whnf) | (refine wIf.mk (fun hif => (have hif := of_decide_eq_true hif; ?_)) (fun hif => (have hif := of_decide_eq_false hif; ?_)) <;> (conv => whnf)) | (refine wIf_not ?_) | (refine ⟨(by decide : (_ : Int) ≠ 0), fun w _ hw => ?_⟩; replace hw := hw (by decide); conv => whnf) | (refine ⟨(by decide : (_ : Int) ≠ 0), div_lit (by decide), fun w _ hw => ?_⟩; replace hw := hw (by decide); conv => whnf) | (refine eq_rD ?_; conv => whnf) | (refine eq_ts ?_; conv => whnf) | (refine ne_ts ?_; conv => whnf) | (refine ne_rD ?_; conv => whnf) | (refine eq_vD ?_; conv => whnf) | (refine ne_vD ?_; conv => whnf) | (refine ⟨isi_ok rfl, ?_⟩; conv => whnf) | (apply wMulS.mk; (first | exact mul_l (by decide) (by decide) | exact mul_r (by decide) (by decide) | exact mul_ok (by l_ints) (by l_ints) (by decide)); conv => whnf) | (refine ⟨⟨by decide, by decide, by decide⟩, ?_⟩; conv => whnf) | (refine ⟨⟨by decide, by decide, by omega⟩, ?_⟩; conv => whnf) | (refine ⟨small_sz (Nat.le_of_ble_eq_true rfl), ?_⟩; conv => whnf) | fail))
  refine gC g10 ⟨(v.2 : Rat), r, a, k, rfl, b2, h2, by omega, ?_⟩
  ((conv => whnf); repeat' (first | (refine wIf_tt ?_; conv => whnf) | (refine wIf_ff ?_; conv => whnf) | (refine wIf.mk (fun hif => (have hif := of_decide_eq_true hif; ?_)) (fun hif => (have hif := of_decide_eq_false hif; ?_)) <;> (conv => whnf)) | (refine wIf_not ?_) | (refine ⟨(by decide : (_ : Int) ≠ 0), fun w _ hw => ?_⟩; replace hw := hw (by decide); conv => whnf) | (refine ⟨(by decide : (_ : Int) ≠ 0), div_lit (by decide), fun w _ hw => ?_⟩; replace hw := hw (by decide); conv => whnf) | (refine eq_rD ?_; conv => whnf) | (refine eq_ts ?_; conv => whnf) | (refine ne_ts ?_; conv => whnf) | (refine ne_rD ?_; conv => whnf) | (refine eq_vD ?_; conv => whnf) | (refine ne_vD ?_; conv => whnf) | (refine ⟨isi_ok rfl, ?_⟩; conv => whnf) | (apply wMulS.mk; (first | exact mul_l (by decide) (by decide) | exact mul_r (by decide) (by decide) | exact mul_ok (by l_ints) (by l_ints) (by decide)); conv => whnf) | (refine ⟨⟨by decide, by decide, by decide⟩, ?_⟩; conv => whnf) | (refine ⟨⟨by decide, by decide, by omega⟩, ?_⟩; conv => whnf) | (refine ⟨small_sz (Nat.le_of_ble_eq_true rfl), ?_⟩; conv => whnf) | fail))
  refine gC g20 ⟨_, _, a + k, a + k, rfl, b1.mul h2, b2.mul h2, by omega, ?_⟩
  conv => whnf
  exact q
def eF (vs : List Vec) (i : Nat) : Int := (vAt vs i).1
def nF (vs : List Vec) (i : Nat) : Int := (vAt vs i).2
theorem pd00 : PD 0 0 = .tuple [.int 0, .int 0, .int 1] := by
  have : plc 0 0 = (0, 0, 1) := by decide
  unfold PD
  rw [this]
  rfl
theorem int_times (x : Int) (r : Rat) : (x : Rat) * r = Rat.divInt (x * r.num) r.den := by
  have := rat_mul (x : Rat) r
  simpa using this.symm
theorem pb_times {a k : Nat} {v : Vec} {r : Rat} (h : VB a v) (g : RB k r) : PB (a + k) ((v.1 : Rat) * r) ((v.2 : Rat) * r) := by
  have hd := r.den_pos
  rw [int_times, int_times]
  exact PB.low (by omega) (h.1.mul g.1) (h.2.mul g.1) (g.2.mono (by omega))
structure SzOk (a k L : Nat) : Prop where
  a1 : 1 ≤ a
  le : 2 * a + 2 * k + L ≤ 8900
def sp_shares_end : DSp := fun ds Q X => ∃ (vs : List Vec) (rs : List Raw) (a k L : Nat), ds = [windD vs, rowsD rs] ∧ (∀ v ∈ vs, VB a v) ∧ rs.length ≤ 120 ∧ (∀ r ∈ rs, Bd k r.2.1 ∧ Bd k r.2.2) ∧ k * rs.length ≤ L ∧ SzOk a k L ∧
  (∀ ss, rs = ss.map raw → Good k vs.length ss → Q (.d (PD (qtot (eF vs) ss) (qtot (nF vs) ss)))) ∧ (goodB vs.length (-1) rs = false → X 3)
theorem raw_inj {ss ts : List Sh} (h : ss.map raw = ts.map raw) : ss = ts := by
  refine (List.map_inj_right fun s t e => ?_).mp h
  unfold raw at e
  rw [Prod.mk.injEq, Prod.mk.injEq] at e
  obtain ⟨e1, e2, e3⟩ := e
  refine Prod.ext (by omega) ?_
  exact Rat.ext e2 (by omega)
theorem p_shares_end {G : Nat → DSp} (g52 : G 52 = sp_look_at_shares) (g23 : G 23 = sp_place_added) (g53 : G 53 = sp_heading_times) : FnW G 5 2 m_shares_end sp_shares_end := by
  intro ds Q X ⟨vs, rs, a, k, L, e, hv, hn, hb, hL, sz, q, hx⟩
  subst e
  refine ⟨rfl, ?_⟩
  have z := sz.le
  conv => whnf
  refine gC g52 ⟨vs, rs, rfl, fun r hr => (hb r hr).2.mono ?_, fun gd => ?_, hx⟩
  · have := Nat.le_of_lt (List.length_pos_of_mem hr)
    omega
  obtain ⟨ss, e, h⟩ := good_of hn hb gd
  subst e
  have q := q ss rfl h
  rw [List.length_map] at hL
  rw [rowsD_raw]
  ((conv => whnf); repeat' (first | (refine wIf_tt ?_; conv => whnf) | (refine wIf_ff ?_; conv => whnf) | (refine wIf.mk (fun hif => (have hif := of_decide_eq_true hif; ?_)) (fun hif => (have hif := of_decide_eq_false hif; ?_)) <;> (conv => whnf)) | (refine wIf_not ?_) | (refine ⟨(by decide : (_ : Int) ≠ 0), fun w _ hw => ?_⟩; replace hw := hw (by decide); conv => whnf) | (refine ⟨(by decide : (_ : Int) ≠ 0), div_lit (by decide), fun w _ hw => ?_⟩; replace hw := hw (by decide); conv => whnf) | (refine eq_rD ?_; conv => whnf) | (refine eq_ts ?_; conv => whnf) | (refine ne_ts ?_; conv => whnf) | (refine ne_rD ?_; conv => whnf) | (refine eq_vD ?_; conv => whnf) | (refine ne_vD ?_; conv => whnf) | (refine ⟨isi_ok rfl, ?_⟩; conv => whnf) | (apply wMulS.mk; (first | exact mul_l (by decide) (by decide) | exact mul_r (by decide) (by decide) | exact mul_ok (by l_ints) (by l_ints) (by decide)); conv => whnf) | (refine ⟨⟨by decide, by decide, by decide⟩, ?_⟩; conv => whnf) | (refine ⟨⟨by decide, by decide, by omega⟩, ?_⟩; conv => whnf) | (refine ⟨small_sz (Nat.le_of_ble_eq_true rfl), ?_⟩; conv => whnf) | fail))
  refine ⟨rfl, ?_⟩
  refine forLoop_ind (fun ds ρ => ∃ (ps qs : List Sh) (x y : Option DL.R), ds = qs.map shD ∧ ps ++ qs = ss ∧ ρ = [some (.d (windD vs)), some (.d (sharesD ss)), some (.d (PD (qtot (eF vs) ps) (qtot (nF vs) ps))), x, y]) ?_ ?_ _ _ ⟨[], ss, none, none, rfl, rfl, by rw [show PD (qtot (eF vs) []) (qtot (nF vs) []) = _ from pd00]; rfl⟩
  · rintro ρ ⟨ps, qs, x, y, e1, e2, rfl⟩
    have : qs = [] := by simpa using e1.symm
    subst this
    rw [List.append_nil] at e2
    subst e2
    conv => whnf
    exact q
  rintro d ds ρ ⟨ps, qs, x, y, e1, e2, rfl⟩ nx hnx
  cases qs with
  | nil => cases e1
  | cons s qs =>
    cases e1
    have o := h.ok s (by rw [← e2]; simp)
    have hp : ∀ t ∈ ps, RB k t.2 := fun t ht => (h.ok t (by rw [← e2]; exact List.mem_append_left _ ht)).rb
    have hl : ps.length ≤ 120 := by have := h.len; rw [← e2, List.length_append] at this; omega
    have hl2 : k * ps.length ≤ L := Nat.le_trans (Nat.mul_le_mul_left k (by rw [← e2, List.length_append]; omega)) hL
    have hb := vAt_bd hv
    have a1 := atI_v o.lt
    conv => whnf
    rw [a1]
    conv => whnf
    refine gC g53 ⟨_, s.2, a, k, rfl, hb _, o.rb, sz.a1, by omega, ?_⟩
    conv => whnf
    refine gC g23 ⟨_, _, _, _, a + k + L + 8, a + k, rfl, qtot_pb _ _ a (fun i => (hb i).1) (fun i => (hb i).2) hl hl2 hp, pb_times (hb _) o.rb, by omega, ?_⟩
    conv => whnf
    have hh := fun x y => hnx _ ⟨ps ++ [s], qs, x, y, rfl, by simpa using e2, rfl⟩
    rw [qtot_snoc, qtot_snoc] at hh
    exact hh _ _
def one1 : Nat → Int := fun _ => 1
def sp_shares_sum : DSp := fun ds Q X => ∃ (n k L : Nat) (ss : List Sh), ds = [sharesD ss] ∧ Good k n ss ∧ k * ss.length ≤ L ∧ SzOk 1 k L ∧ Q (.d (rD (qtot one1 ss)))
theorem p_shares_sum {G : Nat → DSp} (g8 : G 8 = sp_added) : FnW G 4 1 m_shares_sum sp_shares_sum := by
  intro ds Q X ⟨n, k, L, ss, e, h, hL, sz, q⟩
  subst e
  refine ⟨rfl, ?_⟩
  have z := sz.le
  ((conv => whnf); repeat' (first | (refine wIf_tt ?_; conv => whnf) | (refine wIf_ff ?_; conv => whnf) | (refine wIf.mk (fun hif => (have hif := of_decide_eq_true hif; ?_)) (fun hif => (have hif := of_decide_eq_false hif; ?_)) <;> (conv => whnf)) | (refine wIf_not ?_) | (refine ⟨(by decide : (_ : Int) ≠ 0), fun w _ hw => ?_⟩; replace hw := hw (by decide); conv => whnf) | (refine ⟨(by decide : (_ : Int) ≠ 0), div_lit (by decide), fun w _ hw => ?_⟩; replace hw := hw (by decide); conv => whnf) | (refine eq_rD ?_; conv => whnf) | (refine eq_ts ?_; conv => whnf) | (refine ne_ts ?_; conv => whnf) | (refine ne_rD ?_; conv => whnf) | (refine eq_vD ?_; conv => whnf) | (refine ne_vD ?_; conv => whnf) | (refine ⟨isi_ok rfl, ?_⟩; conv => whnf) | (apply wMulS.mk; (first | exact mul_l (by decide) (by decide) | exact mul_r (by decide) (by decide) | exact mul_ok (by l_ints) (by l_ints) (by decide)); conv => whnf) | (refine ⟨⟨by decide, by decide, by decide⟩, ?_⟩; conv => whnf) | (refine ⟨⟨by decide, by decide, by omega⟩, ?_⟩; conv => whnf) | (refine ⟨small_sz (Nat.le_of_ble_eq_true rfl), ?_⟩; conv => whnf) | fail))
  refine ⟨rfl, ?_⟩
  refine forLoop_ind (fun ds ρ => ∃ (ps qs : List Sh) (x y : Option DL.R), ds = qs.map shD ∧ ps ++ qs = ss ∧ ρ = [some (.d (sharesD ss)), some (.d (rD (qtot one1 ps))), x, y]) ?_ ?_ _ _ ⟨[], ss, none, none, rfl, rfl, rfl⟩
  · rintro ρ ⟨ps, qs, x, y, e1, e2, rfl⟩
    have : qs = [] := by simpa using e1.symm
    subst this
    rw [List.append_nil] at e2
    subst e2
    conv => whnf
    exact q
  rintro d ds ρ ⟨ps, qs, x, y, e1, e2, rfl⟩ nx hnx
  cases qs with
  | nil => cases e1
  | cons s qs =>
    cases e1
    have o := h.ok s (by rw [← e2]; simp)
    have hp : ∀ t ∈ ps, RB k t.2 := fun t ht => (h.ok t (by rw [← e2]; exact List.mem_append_left _ ht)).rb
    have hl : ps.length ≤ 120 := by have := h.len; rw [← e2, List.length_append] at this; omega
    have hl2 : k * ps.length ≤ L := Nat.le_trans (Nat.mul_le_mul_left k (by rw [← e2, List.length_append]; omega)) hL
    conv => whnf
    refine gC g8 ⟨_, s.2, 1 + k + L + 8, k, rfl, qtot_rb _ 1 (fun i => by unfold one1; decide) hl hl2 hp, o.rb, by omega, ?_⟩
    conv => whnf
    have hh := fun x y => hnx _ ⟨ps ++ [s], qs, x, y, rfl, by simpa using e2, rfl⟩
    rw [qtot_snoc, show ((one1 s.1 : Int) : Rat) = 1 from rfl, Rat.one_mul] at hh
    exact hh _ _
theorem divInt_pos {a b : Int} (ha : 0 < a) (hb : 0 < b) : 0 < (Rat.divInt a b).num := by
  have h := (Rat.divInt_eq_divInt_iff (den_ne (Rat.divInt a b)) (show b ≠ 0 by omega)).mp (Rat.num_divInt_den (Rat.divInt a b))
  have hd := (Rat.divInt a b).den_pos
  have h2 : 0 < (Rat.divInt a b).num * b := by rw [h]; exact Int.mul_pos ha (by omega)
  exact Int.pos_of_mul_pos_left h2 hb
end DL
end
section
namespace DL
end DL
end
section
namespace DL
end DL
end
section
namespace DL
end DL
end
section
namespace DL
end DL
end
section
namespace DL
end DL
end
section
set_option maxRecDepth 100000
set_option maxHeartbeats 4000000
set_option exponentiation.threshold 100000
namespace DL
open PySem L2
local macro_rules | `(tactic| l_ints) => `(tactic| first | (assumption) | (apply Bd.neg; l_ints) | (apply Bd.mul <;> l_ints) | (exact bd40 (by omega) (by omega)) | (apply Bd.add <;> l_ints) | (apply Bd.sub <;> l_ints) | (exact bd130 (by omega) (by omega)) | (exact bd210 (by omega) (by omega)) | (exact bd_self _) | fail)
end DL
end
section
namespace DL
end DL
end
section
namespace DL
end DL
end
section
namespace DL
end DL
end
section
namespace DL
end DL
end
section
namespace DL
end DL
end
section
set_option maxRecDepth 100000
set_option maxHeartbeats 4000000
set_option exponentiation.threshold 100000
namespace DL
open PySem L2
local macro_rules | `(tactic| l_ints) => `(tactic| first | (assumption) | (apply Bd.neg; l_ints) | (apply Bd.mul <;> l_ints) | (exact bd40 (by omega) (by omega)) | (apply Bd.add <;> l_ints) | (apply Bd.sub <;> l_ints) | (exact bd130 (by omega) (by omega)) | (exact bd210 (by omega) (by omega)) | (exact bd_self _) | fail)
end DL
end
section
namespace DL
end DL
end
section
set_option maxRecDepth 100000
set_option maxHeartbeats 4000000
set_option exponentiation.threshold 100000
namespace DL
open PySem L2
local macro_rules | `(tactic| l_ints) => `(tactic| first | (assumption) | (apply Bd.neg; l_ints) | (apply Bd.mul <;> l_ints) | (exact bd40 (by omega) (by omega)) | (apply Bd.add <;> l_ints) | (apply Bd.sub <;> l_ints) | (exact bd130 (by omega) (by omega)) | (exact bd210 (by omega) (by omega)) | (exact bd_self _) | fail)
end DL
end
section
set_option maxRecDepth 100000
set_option maxHeartbeats 4000000
set_option exponentiation.threshold 100000
namespace DL
open PySem L2
local macro_rules | `(tactic| l_ints) => `(tactic| first | (assumption) | (apply Bd.neg; l_ints) | (apply Bd.mul <;> l_ints) | (exact bd40 (by omega) (by omega)) | (apply Bd.add <;> l_ints) | (apply Bd.sub <;> l_ints) | (exact bd130 (by omega) (by omega)) | (exact bd210 (by omega) (by omega)) | (exact bd_self _) | fail)
theorem bd_sum {k : Nat} : ∀ (m : Nat) (xs : List Int), xs.length ≤ 2 ^ m → (∀ x ∈ xs, Bd k x) → Bd (k + m) xs.sum := by
  intro m xs hl h
  have key : ∀ xs : List Int, (∀ x ∈ xs, Bd k x) → xs.sum.natAbs ≤ xs.length * (2 ^ k - 1) := by
    intro xs
    induction xs with
    | nil => intro _; simp
    | cons x xs ih =>
      intro h
      have := ih fun y hy => h y (List.mem_cons_of_mem _ hy)
      have := h x List.mem_cons_self
      unfold Bd at this
      rw [List.sum_cons, List.length_cons, Nat.succ_mul]
      omega
  have := key xs h
  unfold Bd
  have p : 1 ≤ 2 ^ k := Nat.one_le_two_pow
  have a : xs.length * (2 ^ k - 1) ≤ 2 ^ m * (2 ^ k - 1) := Nat.mul_le_mul_right _ hl
  have b : 2 ^ m * (2 ^ k - 1) < 2 ^ (k + m) := by
    rw [Nat.pow_add, Nat.mul_comm (2 ^ k)]
    exact Nat.mul_lt_mul_of_pos_left (by omega) (Nat.two_pow_pos m)
  omega
structure WgOk (vs : List Vec) (m : Nat) (r : Int × Int × Int) : Prop where
  wi : Within vs r.1 r.2.1 r.2.2
  xy : VB m (r.1, r.2.1)
  bd : Bd 20 r.2.2
theorem for_map {α : Type} {st : D → En → (En → Prop) → Prop} {body : DE → En → Prop} {E : DE} (f : α → D) (xs : List α) (P : En → Prop) (h0 : ∀ ρ, P ρ → E.nx ρ)
    (h1 : ∀ x ∈ xs, ∀ ρ, P ρ → ∀ nx : En → Prop, (∀ ρ', P ρ' → nx ρ') → st (f x) ρ fun ρ2 => body { E with nx := nx, bk := E.nx } ρ2) (ρ : En) (h : P ρ) : forLoop st body E (xs.map f) ρ := by
  refine forLoop_ind (fun ds ρ => ∃ zs : List α, ds = zs.map f ∧ (∀ z ∈ zs, z ∈ xs) ∧ P ρ) ?_ ?_ _ _ ⟨xs, rfl, fun _ h => h, h⟩
  · rintro ρ ⟨zs, _, _, h⟩
    exact h0 ρ h
  · rintro d ds ρ ⟨zs, e, m, h⟩ nx hnx
    cases zs with
    | nil => cases e
    | cons z zs =>
      cases e
      exact h1 z (m z List.mem_cons_self) ρ h nx fun ρ' h' => hnx ρ' ⟨zs, rfl, fun y hy => m y (List.mem_cons_of_mem _ hy), h'⟩
end DL
end
section
set_option maxHeartbeats 4000000
namespace DL
section
variable {P : Vec → Prop}
end
end DL
end
section
set_option maxHeartbeats 4000000
namespace DL
def cbV (x y b : Int) (c : Vec) : Vec := (c.1 * b - x, c.2 * b - y)
structure RoundOk (L : List Vec) (x y b : Int) (cr : List (Vec × Int)) : Prop where
  mem : ∀ c ∈ cr, c.1 ∈ L
  nd : (cr.map (·.1)).Nodup
  nn : ∀ c ∈ cr, 0 ≤ c.2
  pos : 0 < (cr.map (·.2)).sum
  ex : (cr.map fun c => c.2 * c.1.1).sum * b = (cr.map (·.2)).sum * x
  ey : (cr.map fun c => c.2 * c.1.2).sum * b = (cr.map (·.2)).sum * y
  len : cr.length ≤ 3
section
variable {vs : List Vec} {x y b : Int}
def w3 (x y b : Int) (p q r : Vec) : List Int := [crs (cbV x y b q) (cbV x y b r), crs (cbV x y b r) (cbV x y b p), crs (cbV x y b p) (cbV x y b q)]
theorem RoundOk.le {L : List Vec} {cr : List (Vec × Int)} (o : RoundOk L x y b cr) (hb : 0 < b) (p : Vec) (m : Int) (h : ∀ u ∈ L, crs u p ≤ m) : crs (x, y) p ≤ m * b := by
  have key : ∀ cr : List (Vec × Int), (∀ c ∈ cr, c.1 ∈ L) → (∀ c ∈ cr, 0 ≤ c.2) → (cr.map fun c => c.2 * c.1.1).sum * p.2 - (cr.map fun c => c.2 * c.1.2).sum * p.1 ≤ (cr.map (·.2)).sum * m := by
    intro cr
    induction cr with
    | nil => intro _ _; simp
    | cons c cr ih =>
      intro hm hn
      have i := ih (fun z hz => hm z (List.mem_cons_of_mem _ hz)) fun z hz => hn z (List.mem_cons_of_mem _ hz)
      have l := Int.mul_le_mul_of_nonneg_left (h _ (hm c List.mem_cons_self)) (hn c List.mem_cons_self)
      simp only [List.map_cons, List.sum_cons]
      have e : c.2 * crs c.1 p = c.2 * c.1.1 * p.2 - c.2 * c.1.2 * p.1 := by unfold crs; grind
      rw [e] at l
      rw [Int.add_mul, Int.add_mul, Int.add_mul]
      omega
  have k := key cr o.mem o.nn
  have ex := o.ex
  have ey := o.ey
  have pos := o.pos
  generalize (cr.map fun c => c.2 * c.1.1).sum = sx at *
  generalize (cr.map fun c => c.2 * c.1.2).sum = sy at *
  generalize (cr.map (·.2)).sum = W at *
  have k2 := Int.mul_le_mul_of_nonneg_right k (Int.le_of_lt hb)
  have e1 : (sx * p.2 - sy * p.1) * b = W * crs (x, y) p := by
    have : (sx * p.2 - sy * p.1) * b = (sx * b) * p.2 - (sy * b) * p.1 := by grind
    rw [this, ex, ey]
    unfold crs
    grind
  rw [e1, Int.mul_assoc] at k2
  exact Int.le_of_mul_le_mul_left k2 pos
end
end DL
end
section
namespace DL
end DL
end
section
namespace DL
end DL
end
section
namespace DL
end DL
end
section
namespace DL
end DL
end
section
namespace DL
end DL
end
section
namespace DL
end DL
end
section
set_option maxRecDepth 100000
set_option maxHeartbeats 4000000
set_option exponentiation.threshold 100000
namespace DL
open PySem L2
local macro_rules | `(tactic| l_ints) => `(tactic| first | (assumption) | (apply Bd.neg; l_ints) | (apply Bd.mul <;> l_ints) | (exact bd40 (by omega) (by omega)) | (apply Bd.add <;> l_ints) | (apply Bd.sub <;> l_ints) | (exact bd130 (by omega) (by omega)) | (exact bd210 (by omega) (by omega)) | (exact bd_self _) | fail)
theorem qfold (f : Nat → Int) : ∀ (ss : List Sh) (a : Rat), ss.foldl (fun a s => a + (f s.1 : Rat) * s.2) a = a + qtot f ss
  | [], a => (Rat.add_zero a).symm
  | s :: ss, a => by
    show ss.foldl _ (a + (f s.1 : Rat) * s.2) = a + ss.foldl _ (0 + (f s.1 : Rat) * s.2)
    rw [qfold f ss, qfold f ss, Rat.zero_add, Rat.add_assoc]
theorem qtot_cons (f : Nat → Int) (s : Sh) (ss : List Sh) : qtot f (s :: ss) = (f s.1 : Rat) * s.2 + qtot f ss := by
  show ss.foldl _ (0 + (f s.1 : Rat) * s.2) = _
  rw [qfold, Rat.zero_add]
theorem qtot_nil (f : Nat → Int) : qtot f [] = 0 := rfl
theorem intX_divInt (x w W : Int) (hW : W ≠ 0) : (x : Rat) * Rat.divInt w W = Rat.divInt (x * w) W := by
  have e : (x : Rat) = Rat.divInt x 1 := (Rat.num_divInt_den (x : Rat)).symm
  rw [e, Rat.divInt_mul_divInt, Int.one_mul]
structure LeadTo (vs : List Vec) (ss : List Sh) (e n : Rat) : Prop where
  e : qtot (eF vs) ss = e
  n : qtot (nF vs) ss = n
  one : qtot one1 ss = 1
end DL
end
section
namespace DL
end DL
end
section
namespace DL
end DL
end
section
namespace DL
end DL
end
section
set_option maxRecDepth 100000
set_option maxHeartbeats 4000000
set_option exponentiation.threshold 100000
namespace DL
open PySem L2
local macro_rules | `(tactic| l_ints) => `(tactic| first | (assumption) | (apply Bd.neg; l_ints) | (apply Bd.mul <;> l_ints) | (exact bd40 (by omega) (by omega)) | (apply Bd.add <;> l_ints) | (apply Bd.sub <;> l_ints) | (exact bd130 (by omega) (by omega)) | (exact bd210 (by omega) (by omega)) | (exact bd_self _) | fail)
abbrev Row3 := Int × Int × Int
structure R3Ok (k m : Nat) (r : Row3) : Prop where
  xy : VB k (r.1, r.2.1)
  pos : 0 < r.2.2
  bd : Bd m r.2.2
end DL
end
section
set_option maxRecDepth 100000
set_option maxHeartbeats 4000000
namespace DL
open PySem L2
theorem dep_V : ∀ vs : List Vec, PyData.depthAll (vs.map vD) ≤ 10
  | [] => by simp [PyData.depthAll]
  | v :: vs => by
    rw [List.map_cons, PyData.depthAll]
    have := dep_V vs
    have : (vD v).depth ≤ 10 := by unfold vD; simp [PyData.depth, PyData.depthAll]
    omega
end DL
end
section
set_option maxHeartbeats 4000000
namespace DL
end DL
end
section
namespace DL
end DL
end
section
namespace DL
end DL
end
section
set_option maxRecDepth 100000
set_option maxHeartbeats 4000000
set_option exponentiation.threshold 100000
namespace DL
open PySem L2
local macro_rules | `(tactic| l_ints) => `(tactic| first | (assumption) | (apply Bd.neg; l_ints) | (apply Bd.mul <;> l_ints) | (exact bd40 (by omega) (by omega)) | (apply Bd.add <;> l_ints) | (apply Bd.sub <;> l_ints) | (exact bd130 (by omega) (by omega)) | (exact bd210 (by omega) (by omega)) | (exact bd_self _) | fail)
end DL
end
section
namespace DL
end DL
end
section
namespace DL
end DL
end
section
namespace DL
end DL
end
section
namespace DL
end DL
end
section
namespace DL
end DL
end
section
set_option maxRecDepth 100000
set_option maxHeartbeats 4000000
set_option exponentiation.threshold 100000
namespace DL
open PySem L2
local macro_rules | `(tactic| l_ints) => `(tactic| first | (assumption) | (apply Bd.neg; l_ints) | (apply Bd.mul <;> l_ints) | (exact bd40 (by omega) (by omega)) | (apply Bd.add <;> l_ints) | (apply Bd.sub <;> l_ints) | (exact bd130 (by omega) (by omega)) | (exact bd210 (by omega) (by omega)) | (exact bd_self _) | fail)
def Ss.dr : Nat → Ss → Ss
  | 0, s => s
  | n + 1, .cons _ s => Ss.dr n s
  | _ + 1, .nil => .nil
inductive Ans where
  | sailed (rs : List Raw)
  | other (w : Str) (d : Vec)
end DL
end
section
namespace DL
end DL
end
section
namespace DL
end DL
end
section
set_option maxRecDepth 100000
set_option maxHeartbeats 4000000
set_option exponentiation.threshold 100000
namespace DL
open PySem L2
local macro_rules | `(tactic| l_ints) => `(tactic| first | (assumption) | (apply Bd.neg; l_ints) | (apply Bd.mul <;> l_ints) | (exact bd40 (by omega) (by omega)) | (apply Bd.add <;> l_ints) | (apply Bd.sub <;> l_ints) | (exact bd130 (by omega) (by omega)) | (exact bd210 (by omega) (by omega)) | (exact bd_self _) | fail)
def shW (W : Int) (ps : List (Nat × Int)) : List Sh := (ps.filter fun p => decide (p.2 > 0)).map fun p => (p.1, Rat.divInt p.2 W)
theorem qtot_shW (f : Nat → Int) (W : Int) (hW : W ≠ 0) : ∀ ps : List (Nat × Int), (∀ p ∈ ps, 0 ≤ p.2) → qtot f (shW W ps) = Rat.divInt (ps.map fun p => p.2 * f p.1).sum W
  | [], _ => by
    show (0 : Rat) = Rat.divInt 0 W
    rw [Rat.zero_divInt]
  | c :: cr, h => by
    have ih := qtot_shW f W hW cr fun d hd => h d (List.mem_cons_of_mem _ hd)
    have h0 := h c List.mem_cons_self
    rw [List.map_cons, List.sum_cons, divInt_add_same _ _ _ hW, ← ih]
    unfold shW
    by_cases hc : c.2 > 0
    · rw [List.filter_cons_of_pos (by simpa using hc), List.map_cons, qtot_cons, intX_divInt _ _ _ hW, Int.mul_comm]
    · rw [List.filter_cons_of_neg (by simpa using hc)]
      have : c.2 = 0 := by omega
      rw [this, Int.zero_mul, Rat.zero_divInt, Rat.zero_add]
def wPairs (ws : List Int) (n : Nat) : List (Nat × Int) := (List.range n).map fun k => (k, ws.getD k 0)
theorem wPairs_succ (ws : List Int) (n : Nat) : wPairs ws (n + 1) = wPairs ws n ++ [(n, ws.getD n 0)] := by
  unfold wPairs
  rw [List.range_succ, List.map_append]
  rfl
theorem wPairs_sum (ws : List Int) : ((wPairs ws ws.length).map (·.2)).sum = ws.sum := by
  congr 1
  unfold wPairs
  rw [List.map_map]
  refine List.ext_getElem (by simp) fun i h1 h2 => ?_
  simp [h2]
structure ShBy (n : Nat) (W : Int) (ss : List Sh) : Prop where
  good : Good 47 n ss
  ne : ss ≠ []
  len : ss.length ≤ 100
  one : qtot one1 ss = 1
  pos : 0 < W
  bd : Bd 47 W
  dvd : ∀ s ∈ ss, (s.2.den : Int) ∣ W
theorem den_dvd {a b : Int} (hb : b ≠ 0) : ((Rat.divInt a b).den : Int) ∣ b := by
  have h := (Rat.divInt_eq_divInt_iff (den_ne (Rat.divInt a b)) hb).mp (Rat.num_divInt_den (Rat.divInt a b))
  have this : ((Rat.divInt a b).den : Int) ∣ (Rat.divInt a b).num * b := ⟨a, by rw [h, Int.mul_comm]⟩
  have h2 := Int.natAbs_dvd_natAbs.mpr this
  rw [Int.natAbs_mul, Int.natAbs_natCast] at h2
  refine Int.natAbs_dvd_natAbs.mp ?_
  rw [Int.natAbs_natCast]
  exact Nat.Coprime.dvd_of_dvd_mul_left (Nat.Coprime.symm (Rat.divInt a b).reduced) h2
theorem shby_of {n : Nat} {ws : List Int} (hl : ws.length = n) (hn : n ≤ 100) (h : ∀ w ∈ ws, 0 ≤ w ∧ w ≤ 10 ^ 12) (hp : 0 < ws.sum) : ShBy n ws.sum (shW ws.sum (wPairs ws n)) := by
  have nn : ∀ p ∈ wPairs ws n, 0 ≤ p.2 ∧ p.2 ≤ 10 ^ 12 ∧ p.1 < n := fun p hp => by
    unfold wPairs at hp
    obtain ⟨k, hk, rfl⟩ := List.mem_map.mp hp
    have hk := List.mem_range.mp hk
    have e : ws.getD k 0 = ws[k]'(by omega) := by rw [List.getD_eq_getElem?_getD, List.getElem?_eq_getElem (by omega)]; rfl
    have := h (ws[k]'(by omega)) (List.getElem_mem _)
    exact ⟨by rw [e]; exact this.1, by rw [e]; exact this.2, hk⟩
  have bd : Bd 47 ws.sum := bd_sum (k := 40) 7 ws (by omega) fun w hw => by have := h w hw; exact bd_of (by omega) (by omega)
  have one : qtot one1 (shW ws.sum (wPairs ws n)) = 1 := by
    rw [qtot_shW _ _ (by omega) _ fun p hp => (nn p hp).1]
    have : (wPairs ws n).map (fun p => p.2 * one1 p.1) = (wPairs ws n).map (·.2) := List.map_congr_left fun c hc => by unfold one1; rw [Int.mul_one]
    rw [this, ← hl, wPairs_sum]
    exact Rat.divInt_self' (by omega)
  have len : (shW ws.sum (wPairs ws n)).length ≤ n := by
    unfold shW
    rw [List.length_map]
    refine Nat.le_trans (List.length_filter_le _ _) ?_
    unfold wPairs
    simp
  have mem : ∀ s ∈ shW ws.sum (wPairs ws n), ∃ p ∈ wPairs ws n, 0 < p.2 ∧ s = (p.1, Rat.divInt p.2 ws.sum) := fun s hs => by
    unfold shW at hs
    obtain ⟨p, hp, rfl⟩ := List.mem_map.mp hs
    obtain ⟨hp, h0⟩ := List.mem_filter.mp hp
    exact ⟨p, hp, of_decide_eq_true h0, rfl⟩
  refine ⟨⟨by omega, fun s hs => ?_, ?_⟩, fun z => ?_, by omega, one, hp, bd, fun s hs => ?_⟩
  · obtain ⟨p, hp', h0, rfl⟩ := mem s hs
    obtain ⟨n1, n2, n3⟩ := nn p hp'
    exact ⟨n3, divInt_pos h0 hp, RB.divInt (bd_of (by omega) (by omega)) bd (by omega)⟩
  · unfold shW wPairs
    rw [List.pairwise_map]
    refine List.Pairwise.sublist List.filter_sublist ?_
    rw [List.pairwise_map]
    exact List.pairwise_lt_range
  · rw [z] at one
    exact absurd one (by decide)
  · obtain ⟨p, hp', h0, rfl⟩ := mem s hs
    exact den_dvd (by omega)
structure PlOk (a m : Nat) (e n : Rat) : Prop where
  b : Bd m (plc e n).2.2
  xy : VB (a + m) ((plc e n).1, (plc e n).2.1)
theorem PlOk.of {a m : Nat} {x y W : Int} (h0 : 0 < W) (hW : Bd m W) (hx : Bd (a + m) x) (hy : Bd (a + m) y) : PlOk a m (Rat.divInt x W) (Rat.divInt y W) := by
  have e : plc (Rat.divInt x W) (Rat.divInt y W) = plow x y W := (plow_eq h0).symm
  exact ⟨by rw [e]; exact ediv_bd _ hW, by rw [e]; exact ⟨ediv_bd _ hx, ediv_bd _ hy⟩⟩
theorem PlOk.pb {a m : Nat} {e n : Rat} (h : PlOk a m e n) : PB (a + m) e n := ⟨h.xy.1, h.xy.2, h.b.mono (by omega)⟩
theorem PlOk.mono {a m m' : Nat} {e n : Rat} (h : PlOk a m e n) (l : m ≤ m') : PlOk a m' e n := ⟨h.b.mono l, h.xy.mono (by omega)⟩
end DL
end
section
namespace DL
end DL
end
section
namespace DL
end DL
end
section
namespace DL
end DL
end
section
namespace DL
end DL
end
section
set_option maxRecDepth 100000
set_option maxHeartbeats 4000000
set_option exponentiation.threshold 100000
namespace DL
open PySem L2
local macro_rules | `(tactic| l_ints) => `(tactic| first | (assumption) | (apply Bd.neg; l_ints) | (apply Bd.mul <;> l_ints) | (exact bd40 (by omega) (by omega)) | (apply Bd.add <;> l_ints) | (apply Bd.sub <;> l_ints) | (exact bd130 (by omega) (by omega)) | (exact bd210 (by omega) (by omega)) | (exact bd_self _) | fail)
theorem IsFar.ex (b : Vec) : ∀ {vs : List Vec}, vs ≠ [] → ∃ m, IsFar vs b m := by
  intro vs
  induction vs with
  | nil => exact fun h => (h rfl).elim
  | cons v vs ih =>
    intro _
    by_cases h : vs = []
    · subst h
      exact ⟨dot v b, ⟨v, by simp, rfl⟩, by simp⟩
    · obtain ⟨m, ⟨u, h1, h2⟩, h3⟩ := ih h
      by_cases c : m ≤ dot v b
      · exact ⟨dot v b, ⟨v, by simp, rfl⟩, fun w hw => by
          rcases List.mem_cons.mp hw with e | e
          · rw [e]; exact Int.le_refl _
          · exact Int.le_trans (h3 w e) c⟩
      · exact ⟨m, ⟨u, by simp [h1], h2⟩, fun w hw => by
          rcases List.mem_cons.mp hw with e | e
          · rw [e]; omega
          · exact h3 w e⟩
open Classical in
noncomputable def mx (vs : List Vec) (b : Vec) : Int := if h : ∃ m, IsFar vs b m then Classical.choose h else 0
noncomputable def lead (b : Vec) (w : Wt) : Int := mx w.1 b + dot b w.2
noncomputable def leads (b : Vec) (ws : List Wt) : Int := (ws.map (lead b)).sum
def watD (ws : List Wt) : D := .tuple (ws.map wtD)
end DL
end
section
namespace DL
def m_law_lowest_2 : Ss := (.cons (.set 1 (.int 0)) (.cons (.for_ (.nm 2) (.ex (.v 0)) (.cons (.set 3 (.bi .abs (.cons (.v 2) .nil))) (.cons (.whl (.cmp .Gt (.v 3) (.int 0)) (.cons (.set 4 (.bin .Mod (.v 1) (.v 3))) (.cons (.set 1 (.v 3)) (.cons (.set 3 (.v 4)) .nil)))) .nil))) (.cons (.ret (.bi .tuple1 (.cons (.lc (.bin .FloorDiv (.v 2) (.v 1)) (.nm 2) (.ex (.v 0)) .nil [("number", 2)]) .nil))) .nil)))
end DL
end
section
namespace DL
def m_law_sum_2 : Ss := (.cons (.ret (.call 80 (.cons (.lst (.cons (.bin .Add (.bin .Mult (.ix (.v 0) (.int 0)) (.ix (.v 1) (.int 1))) (.bin .Mult (.ix (.v 1) (.int 0)) (.ix (.v 0) (.int 1)))) (.cons (.bin .Mult (.ix (.v 0) (.int 1)) (.ix (.v 1) (.int 1))) .nil))) .nil))) .nil)
end DL
end
section
namespace DL
def m_law_same_2 (c : Nat) : Ss := (.cons (.ifs (.isi (.v 1) "tuple") (.cons (.ifs (.or (.not (.isi (.v 0) "tuple")) (.cmp .NotEq (.bi .len (.cons (.v 0) .nil)) (.bi .len (.cons (.v 1) .nil)))) (.cons (.ret (.bl false)) .nil) .nil) (.cons (.ret (.bi .all1 (.cons (.lc (.call c (.cons (.ix (.v 0) (.v 2)) (.cons (.ix (.v 1) (.v 2)) .nil))) (.nm 2) (.rng1 (.bi .len (.cons (.v 1) .nil))) .nil [("k", 2)]) .nil))) .nil)) .nil) (.cons (.ifs (.isN (.v 1)) (.cons (.ret (.isN (.v 0))) .nil) .nil) (.cons (.ifs (.isi (.v 1) "str") (.cons (.ret (.and (.isi (.v 0) "str") (.cmp .Eq (.v 0) (.v 1)))) .nil) .nil) (.cons (.ifs (.isi (.v 1) "bool") (.cons (.ret (.and (.isi (.v 0) "bool") (.cmp .Eq (.v 0) (.v 1)))) .nil) .nil) (.cons (.ret (.and (.isi (.v 0) "int") (.and (.not (.isi (.v 0) "bool")) (.cmp .Eq (.v 0) (.v 1))))) .nil)))))
end DL
end
section
namespace DL
def m_law_parts : Ss := (.cons (.set 3 (.call 43 (.cons (.v 0) (.cons (.int 31) (.cons (.bin .Add (.v 2) (.int 1)) .nil))))) (.cons (.set 4 (.call 43 (.cons (.v 0) (.cons (.int 32) (.cons (.v 1) .nil))))) (.cons (.set 5 (.call 43 (.cons (.v 0) (.cons (.int 33) (.cons (.v 1) .nil))))) (.cons (.set 6 (.call 43 (.cons (.v 0) (.cons (.int 34) (.cons (.v 1) .nil))))) (.cons (.set 7 (.call 43 (.cons (.v 0) (.cons (.int 35) (.cons (.bin .Add (.bin .Sub (.v 2) (.v 3)) (.int 1)) .nil))))) (.cons (.set 8 (.lc (.int 0) (.nm 9) (.rng1 (.v 1)) .nil [("k", 9)])) (.cons (.sset 8 (.v 4) (.bin .Add (.ix (.v 8) (.v 4)) (.v 3))) (.cons (.sset 8 (.v 5) (.bin .Add (.ix (.v 8) (.v 5)) (.v 7))) (.cons (.sset 8 (.v 6) (.bin .Sub (.bin .Sub (.bin .Add (.ix (.v 8) (.v 6)) (.v 2)) (.v 3)) (.v 7))) (.cons (.frz 8) (.cons (.frz 8) (.cons (.ret (.v 8)) .nil))))))))))))
end DL
end
section
namespace DL
def m_law_course : Ss := (.cons (.set 2 (.lst .nil)) (.cons (.for_ (.nm 3) (.rng1 (.bi .len (.cons (.v 0) .nil))) (.cons (.set 4 (.bin .Add (.int 1) (.call 43 (.cons (.v 1) (.cons (.bin .Add (.int 40) (.v 3)) (.cons (.ix (.lst (.cons (.int 1) (.cons (.int 6) (.cons (.int 60) .nil)))) (.call 43 (.cons (.v 1) (.cons (.int 39) (.cons (.int 3) .nil))))) .nil)))))) (.cons (.set 5 (.call 88 (.cons (.bin .Add (.v 1) (.bin .Mult (.int 7) (.v 3))) (.cons (.bi .len (.cons (.ix (.ix (.v 0) (.v 3)) (.int 0)) .nil)) (.cons (.v 4) .nil))))) (.cons (.ifs (.cmp .Eq (.call 43 (.cons (.bin .Add (.v 1) (.v 3)) (.cons (.int 38) (.cons (.int 4) .nil)))) (.int 0)) (.cons (.set 5 (.lc (.bin .Add (.int 1) (.call 43 (.cons (.bin .Add (.v 1) (.v 3)) (.cons (.bin .Add (.int 120) (.v 6)) (.cons (.int 5) .nil))))) (.nm 6) (.rng1 (.bi .len (.cons (.ix (.ix (.v 0) (.v 3)) (.int 0)) .nil))) .nil [("j", 6)])) (.cons (.frz 5) (.cons (.set 4 (.bi .sum1 (.cons (.v 5) .nil))) .nil))) .nil) (.cons (.app 2 (.bi .tuple1 (.cons (.lc (.tup (.cons (.v 6) (.cons (.call 80 (.cons (.lst (.cons (.ix (.v 5) (.v 6)) (.cons (.v 4) .nil))) .nil)) .nil))) (.nm 6) (.rng1 (.bi .len (.cons (.v 5) .nil))) (.cons (.cmp .Gt (.ix (.v 5) (.v 6)) (.int 0)) .nil) [("j", 6)]) .nil))) .nil))))) (.cons (.frz 2) (.cons (.ret (.bi .tuple1 (.cons (.v 2) .nil))) .nil))))
end DL
end
section
namespace DL
def m_law_add : Ss := (.cons (.set 3 (.ix (.v 2) (.int 0))) (.cons (.set 4 (.bin .Add (.bin .Mult (.ix (.v 0) (.int 0)) (.ix (.v 2) (.int 1))) (.bin .Mult (.bin .Mult (.ix (.v 1) (.int 0)) (.v 3)) (.ix (.v 0) (.int 2))))) (.cons (.set 5 (.bin .Add (.bin .Mult (.ix (.v 0) (.int 1)) (.ix (.v 2) (.int 1))) (.bin .Mult (.bin .Mult (.ix (.v 1) (.int 1)) (.v 3)) (.ix (.v 0) (.int 2))))) (.cons (.ret (.call 80 (.cons (.lst (.cons (.v 4) (.cons (.v 5) (.cons (.bin .Mult (.ix (.v 0) (.int 2)) (.ix (.v 2) (.int 1))) .nil)))) .nil))) .nil))))
end DL
end
section
namespace DL
def m_law_end_2 : Ss := (.cons (.set 2 (.tup (.cons (.int 0) (.cons (.int 0) (.cons (.int 1) .nil))))) (.cons (.for_ (.nm 3) (.rng1 (.bi .len (.cons (.v 1) .nil))) (.cons (.set 4 (.tup (.cons (.int 0) (.cons (.int 1) .nil)))) (.cons (.for_ (.tp [5, 6]) (.ex (.ix (.v 1) (.v 3))) (.cons (.set 2 (.call 90 (.cons (.v 2) (.cons (.ix (.ix (.ix (.v 0) (.v 3)) (.int 0)) (.v 5)) (.cons (.v 6) .nil))))) (.cons (.set 4 (.call 81 (.cons (.v 4) (.cons (.v 6) .nil)))) .nil))) (.cons (.set 2 (.call 90 (.cons (.v 2) (.cons (.ix (.ix (.v 0) (.v 3)) (.int 1)) (.cons (.v 4) .nil))))) .nil)))) (.cons (.ret (.v 2)) .nil)))
end DL
end
section
namespace DL
end DL
end
section
namespace DL
end DL
end
section
namespace DL
end DL
end
section
namespace DL
end DL
end
section
namespace DL
end DL
end
section
set_option maxRecDepth 100000
set_option maxHeartbeats 4000000
set_option exponentiation.threshold 100000
namespace DL
open PySem L2
local macro_rules | `(tactic| l_ints) => `(tactic| first | (assumption) | (apply Bd.neg; l_ints) | (apply Bd.mul <;> l_ints) | (exact bd40 (by omega) (by omega)) | (apply Bd.add <;> l_ints) | (apply Bd.sub <;> l_ints) | (exact bd130 (by omega) (by omega)) | (exact bd210 (by omega) (by omega)) | (exact bd_self _) | fail)
theorem rng_drop {n i : Nat} (h : i < n) : (rngD 0 n).drop i = (.int (i : Int)) :: (rngD 0 n).drop (i + 1) := by
  rw [List.drop_eq_getElem_cons (by rw [rng_len]; exact h)]
  congr 1
  unfold rngD
  simp
theorem lc_rng {st : D → En → (En → Prop) → Prop} {tt : En → (Bool → Prop) → Prop} {el : En → (R → Prop) → Prop} {ρ : En} {Q : R → Prop} (P : Nat → List D → Prop) (n : Nat) (h0 : ∀ acc, P n acc → Q (.l acc true))
    (h1 : ∀ i acc, i < n → P i acc → ∀ k : List D → Prop, (∀ acc', P (i + 1) acc' → k acc') → st (.int (i : Int)) ρ fun ρ2 => tt ρ2 fun b => wIf b (el ρ2 fun r => frzP r fun y => k (acc ++ [y])) (k acc)) (h : P 0 []) : lcLoop st tt el ρ (rngD 0 n) [] Q := by
  refine lc_ind (fun ds acc => ∃ i, i ≤ n ∧ ds = (rngD 0 n).drop i ∧ P i acc) ?_ ?_ _ _ ⟨0, by omega, rfl, h⟩
  · rintro acc ⟨i, hi, e, p⟩
    have : n ≤ i := by
      have := congrArg List.length e
      rw [List.length_drop, rng_len] at this
      simp at this
      omega
    have : i = n := by omega
    subst this
    exact h0 acc p
  · rintro d ds acc ⟨i, hi, e, p⟩ k hk
    have hlt : i < n := by
      have := congrArg List.length e
      rw [List.length_drop, rng_len] at this
      simp at this
      omega
    rw [rng_drop hlt] at e
    cases e
    exact h1 i acc hlt p k fun acc' p' => hk acc' ⟨i + 1, by omega, rfl, p'⟩
def gl (xs : List Int) : Nat := xs.foldl (fun (a : Nat) z => Int.gcd (a : Int) z) 0
def sp_law_lowest_2 : DSp := fun ds Q X => ∃ xs : List Int, ds = [.list (xs.map .int)] ∧ gl xs ≠ 0 ∧ Bd 8999 (gl xs) ∧ Q (.d (.tuple (xs.map fun x => .int (x / gl xs))))
theorem p_law_lowest_2 {G : Nat → DSp} : FnW G 5 1 m_law_lowest_2 sp_law_lowest_2 := by
  intro ds Q X ⟨xs, e, h1, h2, q⟩
  subst e
  refine ⟨rfl, ?_⟩
  ((conv => whnf); repeat' (first | (refine wIf_tt ?_; conv => whnf) | (refine wIf_ff ?_; conv => whnf) | (refine wIf.mk (fun hif => (have hif := of_decide_eq_true hif; ?_)) (fun hif => (have hif := of_decide_eq_false hif; ?_)) <;> (conv => whnf)) | (refine wIf_not ?_) | (refine ⟨(by decide : (_ : Int) ≠ 0), fun w _ hw => ?_⟩; replace hw := hw (by decide); conv => whnf) | (refine ⟨(by decide : (_ : Int) ≠ 0), div_lit (by decide), fun w _ hw => ?_⟩; replace hw := hw (by decide); conv => whnf) | (refine eq_rD ?_; conv => whnf) | (refine eq_ts ?_; conv => whnf) | (refine ne_ts ?_; conv => whnf) | (refine ne_rD ?_; conv => whnf) | (refine eq_vD ?_; conv => whnf) | (refine ne_vD ?_; conv => whnf) | (refine ⟨isi_ok rfl, ?_⟩; conv => whnf) | (apply wMulS.mk; (first | exact mul_l (by decide) (by decide) | exact mul_r (by decide) (by decide) | exact mul_ok (by l_ints) (by l_ints) (by decide)); conv => whnf) | (refine ⟨⟨by decide, by decide, by decide⟩, ?_⟩; conv => whnf) | (refine ⟨⟨by decide, by decide, by omega⟩, ?_⟩; conv => whnf) | (refine ⟨small_sz (Nat.le_of_ble_eq_true rfl), ?_⟩; conv => whnf) | fail))
  refine ⟨rfl, ?_⟩
  refine forLoop_ind (fun ds ρ => ∃ (zs : List Int) (f : Nat) (u v w : Option R), ds = zs.map .int ∧ ρ = [some (.d (.list (xs.map .int))), some (.d (.int f)), u, v, w] ∧ zs.foldl (fun (a : Nat) z => Int.gcd (a : Int) z) f = gl xs) ?_ ?_ _ _ ⟨xs, 0, none, none, none, rfl, rfl, rfl⟩
  · rintro ρ ⟨zs, f, u, v, w, e1, rfl, e2⟩
    have : zs = [] := by simpa using e1.symm
    subst this
    have e2 : f = gl xs := e2
    subst e2
    conv => whnf
    refine lc_map1 (t := .nm 2) PyData.int (fun x => .int (x / gl xs)) xs (fun x hx k hk => ?_) ?_
    · conv => whnf
      refine ⟨by omega, div_ok h2 (by decide), fun w _ hw => ?_⟩
      conv => whnf
      rw [hw (by omega)]
      exact hk
    conv => whnf
    exact q
  · rintro d ds ρ ⟨zs, f, u, v, w, e1, rfl, e2⟩ nx hnx
    cases zs with
    | nil => cases e1
    | cons z zs =>
      cases e1
      conv => whnf
      refine ⟨fun n ρ => ∃ (a c : Nat) (w : Option R), ρ = [some (.d (.list (xs.map .int))), some (.d (.int a)), some (.d (.int z)), some (.d (.int c)), w] ∧ n = c ∧ Nat.gcd a c = Int.gcd (f : Int) z, ⟨_, f, z.natAbs, w, ?_, rfl, ?_⟩, ?_⟩
      · rw [abs_if] <;> rfl
      · simp [Int.gcd]
      rintro n ρ ⟨a, c, w, rfl, rfl, hg⟩
      conv => whnf
      refine wIf.mk (fun h => ?_) (fun h => ?_)
      · have h : (0 : Int) < n := of_decide_eq_true h
        conv => whnf
        refine ⟨by omega, fun w _ hw => ?_⟩
        have hw := hw h
        have e3 : w = ((a % n : Nat) : Int) := by rw [hw]; simp
        subst e3
        conv => whnf
        have hl := Nat.mod_lt a (show 0 < n by omega)
        refine ⟨_, hl, n, a % n, _, rfl, rfl, ?_⟩
        rw [← hg, Nat.gcd_comm n, ← Nat.gcd_rec, Nat.gcd_comm]
      · have h : ¬ (0 : Int) < n := of_decide_eq_false h
        have h0 : n = 0 := by omega
        subst h0
        refine hnx _ ⟨zs, a, _, _, _, rfl, rfl, ?_⟩
        rw [← e2]
        simp only [List.foldl_cons]
        rw [← hg]
        simp
theorem gl2 (a b : Int) : gl [a, b] = Int.gcd a b := by simp [gl, Int.gcd]
theorem gl3 (x y b : Int) : gl [x, y, b] = gcd3 x y b := by simp [gl, gcd3, Int.gcd]
theorem low2 {G : Nat → DSp} (g80 : G 80 = sp_law_lowest_2) {a b : Int} {W : R → Prop} {X : Nat → Prop} (hb : 0 < b) (bb : Bd 8999 b) (h : W (.d (rD (Rat.divInt a b)))) : G 80 [.list [.int a, .int b]] W X := by
  obtain ⟨l1, l2⟩ := low_num (a := a) (b := b) (by omega) (Int.gcd a b) (by rw [if_neg (by omega)])
  have hp : 0 < Int.gcd a b := Int.gcd_pos_of_ne_zero_right a (show b ≠ 0 by omega)
  have hbd := gcd_bd bb (a := a) (b := b) (by omega)
  refine gC g80 ⟨[a, b], rfl, by rw [gl2]; omega, by rw [gl2]; exact hbd, ?_⟩
  show W (.d (.tuple [.int (a / gl [a, b]), .int (b / gl [a, b])]))
  rw [gl2, ← Int.fdiv_eq_ediv_of_nonneg a (by omega), ← Int.fdiv_eq_ediv_of_nonneg b (by omega), l1, l2]
  exact h
theorem low3 {G : Nat → DSp} (g80 : G 80 = sp_law_lowest_2) {x y b : Int} {W : R → Prop} {X : Nat → Prop} (hb : 0 < b) (bb : Bd 8999 b) (h : W (.d (PD (Rat.divInt x b) (Rat.divInt y b)))) : G 80 [.list [.int x, .int y, .int b]] W X := by
  have hp := gcd3_pos (x := x) (y := y) (b := b) (by omega)
  have hbd : Bd 8999 (gcd3 x y b) := gcd_bd bb (a := _) (b := b) (by omega)
  refine gC g80 ⟨[x, y, b], rfl, by rw [gl3]; omega, by rw [gl3]; exact hbd, ?_⟩
  show W (.d (.tuple [.int (x / gl [x, y, b]), .int (y / gl [x, y, b]), .int (b / gl [x, y, b])]))
  rw [gl3]
  unfold PD at h
  rw [← plow_eq hb] at h
  exact h
def sp_law_same_2 (n : Nat) : DSp := sp_law_same n
theorem no_law_same_2 : ∀ ds Q X, ¬ sp_law_same_2 0 ds Q X := no_law_same
theorem p_law_same_2 {G : Nat → DSp} {c n : Nat} (g : G c = sp_law_same_2 n) : FnW G 3 2 (m_law_same_2 c) (sp_law_same_2 (n + 1)) := by
  intro ds Q X ⟨d, e, h, q⟩
  subst e
  refine ⟨rfl, ?_⟩
  have tt : ∀ b : Bool, b = true → Q (.d (.bool b)) := fun b h => by rw [h]; exact q
  cases d with
  | int i =>
    ((conv => whnf); repeat' (first | (refine wIf_tt ?_; conv => whnf) | (refine wIf_ff ?_; conv => whnf) | (refine wIf.mk (fun hif => (have hif := of_decide_eq_true hif; ?_)) (fun hif => (have hif := of_decide_eq_false hif; ?_)) <;> (conv => whnf)) | (refine wIf_not ?_) | (refine ⟨(by decide : (_ : Int) ≠ 0), fun w _ hw => ?_⟩; replace hw := hw (by decide); conv => whnf) | (refine ⟨(by decide : (_ : Int) ≠ 0), div_lit (by decide), fun w _ hw => ?_⟩; replace hw := hw (by decide); conv => whnf) | (refine eq_rD ?_; conv => whnf) | (refine eq_ts ?_; conv => whnf) | (refine ne_ts ?_; conv => whnf) | (refine ne_rD ?_; conv => whnf) | (refine eq_vD ?_; conv => whnf) | (refine ne_vD ?_; conv => whnf) | (refine ⟨isi_ok rfl, ?_⟩; conv => whnf) | (apply wMulS.mk; (first | exact mul_l (by decide) (by decide) | exact mul_r (by decide) (by decide) | exact mul_ok (by l_ints) (by l_ints) (by decide)); conv => whnf) | (refine ⟨⟨by decide, by decide, by decide⟩, ?_⟩; conv => whnf) | (refine ⟨⟨by decide, by decide, by omega⟩, ?_⟩; conv => whnf) | (refine ⟨small_sz (Nat.le_of_ble_eq_true rfl), ?_⟩; conv => whnf) | fail))
    exact tt _ (decide_eq_true rfl)
  | none =>
    ((conv => whnf); repeat' (first | (refine wIf_tt ?_; conv => whnf) | (refine wIf_ff ?_; conv => whnf) | (refine wIf.mk (fun hif => (have hif := of_decide_eq_true hif; ?_)) (fun hif => (have hif := of_decide_eq_false hif; ?_)) <;> (conv => whnf)) | (refine wIf_not ?_) | (refine ⟨(by decide : (_ : Int) ≠ 0), fun w _ hw => ?_⟩; replace hw := hw (by decide); conv => whnf) | (refine ⟨(by decide : (_ : Int) ≠ 0), div_lit (by decide), fun w _ hw => ?_⟩; replace hw := hw (by decide); conv => whnf) | (refine eq_rD ?_; conv => whnf) | (refine eq_ts ?_; conv => whnf) | (refine ne_ts ?_; conv => whnf) | (refine ne_rD ?_; conv => whnf) | (refine eq_vD ?_; conv => whnf) | (refine ne_vD ?_; conv => whnf) | (refine ⟨isi_ok rfl, ?_⟩; conv => whnf) | (apply wMulS.mk; (first | exact mul_l (by decide) (by decide) | exact mul_r (by decide) (by decide) | exact mul_ok (by l_ints) (by l_ints) (by decide)); conv => whnf) | (refine ⟨⟨by decide, by decide, by decide⟩, ?_⟩; conv => whnf) | (refine ⟨⟨by decide, by decide, by omega⟩, ?_⟩; conv => whnf) | (refine ⟨small_sz (Nat.le_of_ble_eq_true rfl), ?_⟩; conv => whnf) | fail))
    exact q
  | bool b =>
    ((conv => whnf); repeat' (first | (refine wIf_tt ?_; conv => whnf) | (refine wIf_ff ?_; conv => whnf) | (refine wIf.mk (fun hif => (have hif := of_decide_eq_true hif; ?_)) (fun hif => (have hif := of_decide_eq_false hif; ?_)) <;> (conv => whnf)) | (refine wIf_not ?_) | (refine ⟨(by decide : (_ : Int) ≠ 0), fun w _ hw => ?_⟩; replace hw := hw (by decide); conv => whnf) | (refine ⟨(by decide : (_ : Int) ≠ 0), div_lit (by decide), fun w _ hw => ?_⟩; replace hw := hw (by decide); conv => whnf) | (refine eq_rD ?_; conv => whnf) | (refine eq_ts ?_; conv => whnf) | (refine ne_ts ?_; conv => whnf) | (refine ne_rD ?_; conv => whnf) | (refine eq_vD ?_; conv => whnf) | (refine ne_vD ?_; conv => whnf) | (refine ⟨isi_ok rfl, ?_⟩; conv => whnf) | (apply wMulS.mk; (first | exact mul_l (by decide) (by decide) | exact mul_r (by decide) (by decide) | exact mul_ok (by l_ints) (by l_ints) (by decide)); conv => whnf) | (refine ⟨⟨by decide, by decide, by decide⟩, ?_⟩; conv => whnf) | (refine ⟨⟨by decide, by decide, by omega⟩, ?_⟩; conv => whnf) | (refine ⟨small_sz (Nat.le_of_ble_eq_true rfl), ?_⟩; conv => whnf) | fail))
    exact tt _ (decide_eq_true rfl)
  | str s =>
    ((conv => whnf); repeat' (first | (refine wIf_tt ?_; conv => whnf) | (refine wIf_ff ?_; conv => whnf) | (refine wIf.mk (fun hif => (have hif := of_decide_eq_true hif; ?_)) (fun hif => (have hif := of_decide_eq_false hif; ?_)) <;> (conv => whnf)) | (refine wIf_not ?_) | (refine ⟨(by decide : (_ : Int) ≠ 0), fun w _ hw => ?_⟩; replace hw := hw (by decide); conv => whnf) | (refine ⟨(by decide : (_ : Int) ≠ 0), div_lit (by decide), fun w _ hw => ?_⟩; replace hw := hw (by decide); conv => whnf) | (refine eq_rD ?_; conv => whnf) | (refine eq_ts ?_; conv => whnf) | (refine ne_ts ?_; conv => whnf) | (refine ne_rD ?_; conv => whnf) | (refine eq_vD ?_; conv => whnf) | (refine ne_vD ?_; conv => whnf) | (refine ⟨isi_ok rfl, ?_⟩; conv => whnf) | (apply wMulS.mk; (first | exact mul_l (by decide) (by decide) | exact mul_r (by decide) (by decide) | exact mul_ok (by l_ints) (by l_ints) (by decide)); conv => whnf) | (refine ⟨⟨by decide, by decide, by decide⟩, ?_⟩; conv => whnf) | (refine ⟨⟨by decide, by decide, by omega⟩, ?_⟩; conv => whnf) | (refine ⟨small_sz (Nat.le_of_ble_eq_true rfl), ?_⟩; conv => whnf) | fail))
    exact tt _ (decide_eq_true rfl)
  | tuple es =>
    obtain ⟨h0, h1⟩ := h
    ((conv => whnf); repeat' (first | (refine wIf_tt ?_; conv => whnf) | (refine wIf_ff ?_; conv => whnf) | (refine wIf.mk (fun hif => (have hif := of_decide_eq_true hif; ?_)) (fun hif => (have hif := of_decide_eq_false hif; ?_)) <;> (conv => whnf)) | (refine wIf_not ?_) | (refine ⟨(by decide : (_ : Int) ≠ 0), fun w _ hw => ?_⟩; replace hw := hw (by decide); conv => whnf) | (refine ⟨(by decide : (_ : Int) ≠ 0), div_lit (by decide), fun w _ hw => ?_⟩; replace hw := hw (by decide); conv => whnf) | (refine eq_rD ?_; conv => whnf) | (refine eq_ts ?_; conv => whnf) | (refine ne_ts ?_; conv => whnf) | (refine ne_rD ?_; conv => whnf) | (refine eq_vD ?_; conv => whnf) | (refine ne_vD ?_; conv => whnf) | (refine ⟨isi_ok rfl, ?_⟩; conv => whnf) | (apply wMulS.mk; (first | exact mul_l (by decide) (by decide) | exact mul_r (by decide) (by decide) | exact mul_ok (by l_ints) (by l_ints) (by decide)); conv => whnf) | (refine ⟨⟨by decide, by decide, by decide⟩, ?_⟩; conv => whnf) | (refine ⟨⟨by decide, by decide, by omega⟩, ?_⟩; conv => whnf) | (refine ⟨small_sz (Nat.le_of_ble_eq_true rfl), ?_⟩; conv => whnf) | fail))
    case refine_2 => exact (hif rfl).elim
    refine ⟨Int.ofNat_le.mpr (small_sz h0), by omega, ?_⟩
    conv => whnf
    refine lc_rng (fun i acc => ∃ bs : List Bool, acc = bs.map .bool ∧ ∀ b ∈ bs, b = true) es.length ?_ ?_ ⟨[], rfl, by simp⟩
    · rintro acc ⟨bs, rfl, h5⟩
      conv => whnf
      refine ⟨bs, rfl, ?_⟩
      conv => whnf
      exact tt _ (List.all_eq_true.mpr h5)
    · rintro i acc hi ⟨bs, rfl, h5⟩ k hk
      obtain ⟨d, a1, hd⟩ := atI_mem (ds := es) (i := (i : Int)) (by omega) (by omega)
      ((conv => whnf); repeat' (first | (rw [a1]; conv => whnf) | (refine gC g ⟨d, rfl, h1 d hd, ?_⟩; conv => whnf) | (refine wIf_tt ?_; conv => whnf) | (refine wIf_ff ?_; conv => whnf) | (refine wIf.mk (fun hif => (have hif := of_decide_eq_true hif; ?_)) (fun hif => (have hif := of_decide_eq_false hif; ?_)) <;> (conv => whnf)) | (refine wIf_not ?_) | (refine ⟨(by decide : (_ : Int) ≠ 0), fun w _ hw => ?_⟩; replace hw := hw (by decide); conv => whnf) | (refine ⟨(by decide : (_ : Int) ≠ 0), div_lit (by decide), fun w _ hw => ?_⟩; replace hw := hw (by decide); conv => whnf) | (refine eq_rD ?_; conv => whnf) | (refine eq_ts ?_; conv => whnf) | (refine ne_ts ?_; conv => whnf) | (refine ne_rD ?_; conv => whnf) | (refine eq_vD ?_; conv => whnf) | (refine ne_vD ?_; conv => whnf) | (refine ⟨isi_ok rfl, ?_⟩; conv => whnf) | (apply wMulS.mk; (first | exact mul_l (by decide) (by decide) | exact mul_r (by decide) (by decide) | exact mul_ok (by l_ints) (by l_ints) (by decide)); conv => whnf) | (refine ⟨⟨by decide, by decide, by decide⟩, ?_⟩; conv => whnf) | (refine ⟨⟨by decide, by decide, by omega⟩, ?_⟩; conv => whnf) | (refine ⟨small_sz (Nat.le_of_ble_eq_true rfl), ?_⟩; conv => whnf) | fail))
      exact hk _ ⟨bs ++ [true], by rw [List.map_append]; rfl, fun b hb => by
        rcases List.mem_append.mp hb with h | h
        · exact h5 b h
        · exact List.mem_singleton.mp h⟩
  | _ => exact h.elim
structure PlB (M k : Nat) (e n : Rat) : Prop where
  z : Bd k (plc e n).2.2
  x : (plc e n).1.natAbs ≤ M * (plc e n).2.2.natAbs
  y : (plc e n).2.1.natAbs ≤ M * (plc e n).2.2.natAbs
structure ShB (T j : Nat) (r : Rat) : Prop where
  d : Bd j r.den
  n : r.num.natAbs ≤ T * r.den
theorem le_scale {x b u w k : Int} {M : Nat} (hx : x = k * u) (hb : b = k * w) (hk : 0 < k) (h : x.natAbs ≤ M * b.natAbs) : u.natAbs ≤ M * w.natAbs := by
  rw [hx, hb, Int.natAbs_mul, Int.natAbs_mul] at h
  have hk2 : 0 < k.natAbs := by omega
  have h2 : k.natAbs * u.natAbs ≤ k.natAbs * (M * w.natAbs) := by
    rw [Nat.mul_left_comm]; exact h
  exact Nat.le_of_mul_le_mul_left h2 hk2
theorem PlB.low {M k : Nat} {x y b : Int} (hb : 0 < b) (h1 : x.natAbs ≤ M * b.natAbs) (h2 : y.natAbs ≤ M * b.natAbs) (h3 : Bd k b) : PlB M k (Rat.divInt x b) (Rat.divInt y b) := by
  have g := gcd3_pos (x := x) (y := y) (show b ≠ 0 by omega)
  obtain ⟨u, hu⟩ := gcd3_x (x := x) (y := y) (b := b)
  obtain ⟨v, hv⟩ := gcd3_y (x := x) (y := y) (b := b)
  obtain ⟨w, hw⟩ := gcd3_b (x := x) (y := y) (b := b)
  have k0 : (gcd3 x y b : Int) ≠ 0 := by omega
  have e1 : x / (gcd3 x y b : Int) = u := by conv => lhs; lhs; rw [hu]
                                             exact Int.mul_ediv_cancel_left _ k0
  have e2 : y / (gcd3 x y b : Int) = v := by conv => lhs; lhs; rw [hv]
                                             exact Int.mul_ediv_cancel_left _ k0
  have e3 : b / (gcd3 x y b : Int) = w := by conv => lhs; lhs; rw [hw]
                                             exact Int.mul_ediv_cancel_left _ k0
  have e := plow_eq (x := x) (y := y) hb
  have e4 : plow x y b = (u, v, w) := by unfold plow; rw [e1, e2, e3]
  have kp : (0 : Int) < (gcd3 x y b : Int) := by omega
  refine ⟨?_, ?_, ?_⟩
  · rw [← e]; exact ediv_bd _ h3
  · rw [← e, e4]; exact le_scale hu hw kp h1
  · rw [← e, e4]; exact le_scale hv hw kp h2
theorem ShB.low {T j : Nat} {a b : Int} (hb : 0 < b) (h1 : a.natAbs ≤ T * b.natAbs) (h2 : Bd j b) : ShB T j (Rat.divInt a b) := by
  have h := (Rat.divInt_eq_divInt_iff (den_ne (Rat.divInt a b)) (show b ≠ 0 by omega)).mp (Rat.num_divInt_den (Rat.divInt a b))
  have hd := (Rat.divInt a b).den_pos
  refine ⟨h2.le (den_le (by omega)), ?_⟩
  generalize Rat.divInt a b = r at *
  have h3 : r.num.natAbs * b.natAbs = a.natAbs * r.den := by
    have := congrArg Int.natAbs h
    rw [Int.natAbs_mul, Int.natAbs_mul] at this
    simpa using this
  have hb2 : 0 < b.natAbs := by omega
  refine Nat.le_of_mul_le_mul_right (c := b.natAbs) ?_ hb2
  rw [h3, Nat.mul_right_comm]
  exact Nat.mul_le_mul_right _ h1
theorem PlB.bd {M k m : Nat} {e n : Rat} (h : PlB M k e n) (hM : M < 2 ^ m) : PB (m + k) e n := by
  have g : ∀ x : Int, x.natAbs ≤ M * (plc e n).2.2.natAbs → Bd (m + k) x := fun x hx => by
    refine Nat.lt_of_le_of_lt hx ?_
    rw [Nat.pow_add]
    exact Nat.lt_of_le_of_lt (Nat.mul_le_mul_right _ (Nat.le_of_lt hM)) ((Nat.mul_lt_mul_left (Nat.pow_pos (by decide))).mpr h.z)
  exact ⟨g _ h.x, g _ h.y, h.z.mono (by omega)⟩
theorem ShB.rb {T j m : Nat} {r : Rat} (h : ShB T j r) (hT : T < 2 ^ m) : RB (m + j) r := by
  refine ⟨?_, h.d.mono (by omega)⟩
  refine Nat.lt_of_le_of_lt h.n ?_
  rw [Nat.pow_add]
  exact Nat.lt_of_le_of_lt (Nat.mul_le_mul_right _ (Nat.le_of_lt hT)) ((Nat.mul_lt_mul_left (Nat.pow_pos (by decide))).mpr h.d)
theorem add_le {M T V : Nat} {x z d v t : Int} (hx : x.natAbs ≤ M * z.natAbs) (hv : v.natAbs ≤ V) (ht : t.natAbs ≤ T * d.natAbs) : (x * d + v * t * z).natAbs ≤ (M + V * T) * (z * d).natAbs := by
  refine Nat.le_trans (Int.natAbs_add_le _ _) ?_
  rw [Int.natAbs_mul, Int.natAbs_mul, Int.natAbs_mul, Int.natAbs_mul, Nat.add_mul]
  refine Nat.add_le_add ?_ ?_
  · rw [← Nat.mul_assoc]; exact Nat.mul_le_mul_right _ hx
  · have := Nat.mul_le_mul (Nat.mul_le_mul hv ht) (Nat.le_refl z.natAbs)
    refine Nat.le_trans this (Nat.le_of_eq ?_)
    grind
theorem add_eqQ {x z v t d : Int} (hz : 0 < z) (hd : 0 < d) : Rat.divInt (x * d + v * t * z) (z * d) = Rat.divInt x z + (v : Rat) * Rat.divInt t d := by
  have z0 : (z : Rat) ≠ 0 := by
    intro h
    have : z = 0 := by exact_mod_cast h
    omega
  have d0 : (d : Rat) ≠ 0 := by
    intro h
    have : d = 0 := by exact_mod_cast h
    omega
  rw [Rat.divInt_eq_div, Rat.divInt_eq_div, Rat.divInt_eq_div, Rat.intCast_add, Rat.intCast_mul, Rat.intCast_mul, Rat.intCast_mul, Rat.intCast_mul]
  grind
def sp_law_add : DSp := fun ds Q X => ∃ (e n : Rat) (v : Vec) (r : Rat) (M k T j : Nat), ds = [PD e n, vD v, rD r] ∧ PlB M k e n ∧ VB 140 v ∧ ShB T j r ∧ M < 2 ^ 1000 ∧ T < 2 ^ 100 ∧ k + j ≤ 8000 ∧ ∀ e' n', e' = e + (v.1 : Rat) * r → n' = n + (v.2 : Rat) * r → PlB (M + 2 ^ 140 * T) (k + j) e' n' → Q (.d (PD e' n'))
theorem p_law_add {G : Nat → DSp} (g80 : G 80 = sp_law_lowest_2) : FnW G 6 3 m_law_add sp_law_add := by
  intro ds Q X ⟨e, n, v, r, M, k, T, j, e0, hp, hv, hr, hM, hT, hk, q⟩
  subst e0
  refine ⟨rfl, ?_⟩
  obtain ⟨b1, b2, b3⟩ := hp.bd hM
  obtain ⟨r1, r2⟩ := hr.rb hT
  have zp := (plc_norm e n).1.pos
  have dp : (0 : Int) < r.den := by have := r.den_pos; omega
  conv => whnf
  refine ⟨mul_ok b1 r2 (by omega), ?_⟩
  conv => whnf
  refine ⟨mul_ok hv.1 r1 (by omega), ?_⟩
  conv => whnf
  refine ⟨mul_ok (hv.1.mul r1) b3 (by omega), ?_⟩
  conv => whnf
  refine ⟨mul_ok b2 r2 (by omega), ?_⟩
  conv => whnf
  refine ⟨mul_ok hv.2 r1 (by omega), ?_⟩
  conv => whnf
  refine ⟨mul_ok (hv.2.mul r1) b3 (by omega), ?_⟩
  conv => whnf
  refine ⟨mul_ok b3 r2 (by omega), ?_⟩
  ((conv => whnf); repeat' (first | (refine wIf_tt ?_; conv => whnf) | (refine wIf_ff ?_; conv => whnf) | (refine wIf.mk (fun hif => (have hif := of_decide_eq_true hif; ?_)) (fun hif => (have hif := of_decide_eq_false hif; ?_)) <;> (conv => whnf)) | (refine wIf_not ?_) | (refine ⟨(by decide : (_ : Int) ≠ 0), fun w _ hw => ?_⟩; replace hw := hw (by decide); conv => whnf) | (refine ⟨(by decide : (_ : Int) ≠ 0), div_lit (by decide), fun w _ hw => ?_⟩; replace hw := hw (by decide); conv => whnf) | (refine eq_rD ?_; conv => whnf) | (refine eq_ts ?_; conv => whnf) | (refine ne_ts ?_; conv => whnf) | (refine ne_rD ?_; conv => whnf) | (refine eq_vD ?_; conv => whnf) | (refine ne_vD ?_; conv => whnf) | (refine ⟨isi_ok rfl, ?_⟩; conv => whnf) | (apply wMulS.mk; (first | exact mul_l (by decide) (by decide) | exact mul_r (by decide) (by decide) | exact mul_ok (by l_ints) (by l_ints) (by decide)); conv => whnf) | (refine ⟨⟨by decide, by decide, by decide⟩, ?_⟩; conv => whnf) | (refine ⟨⟨by decide, by decide, by omega⟩, ?_⟩; conv => whnf) | (refine ⟨small_sz (Nat.le_of_ble_eq_true rfl), ?_⟩; conv => whnf) | fail))
  have hz : Bd (k + j) ((plc e n).2.2 * r.den) := hp.z.mul hr.d
  have hzp : 0 < (plc e n).2.2 * r.den := Int.mul_pos zp dp
  have hn : r.num.natAbs ≤ T * (r.den : Int).natAbs := by simpa using hr.n
  refine low3 g80 hzp (hz.mono (by omega)) ?_
  conv => whnf
  have x1 := add_eqQ (x := (plc e n).1) (v := v.1) (t := r.num) zp dp
  have x2 := add_eqQ (x := (plc e n).2.1) (v := v.2) (t := r.num) zp dp
  rw [(plc_e e n).1, Rat.num_divInt_den] at x1
  rw [(plc_e e n).2, Rat.num_divInt_den] at x2
  exact q _ _ x1 x2 (PlB.low hzp (add_le hp.x (Nat.le_of_lt hv.1) hn) (add_le hp.y (Nat.le_of_lt hv.2) hn) hz)
def sp_law_sum_2 : DSp := fun ds Q X => ∃ (r s : Rat) (T j T' j' : Nat), ds = [rD r, rD s] ∧ ShB T j r ∧ ShB T' j' s ∧ T < 2 ^ 100 ∧ T' < 2 ^ 100 ∧ j + j' ≤ 8000 ∧ ∀ t, t = r + s → ShB (T + T') (j + j') t → Q (.d (rD t))
theorem p_law_sum_2 {G : Nat → DSp} (g80 : G 80 = sp_law_lowest_2) : FnW G 2 2 m_law_sum_2 sp_law_sum_2 := by
  intro ds Q X ⟨r, s, T, j, T', j', e0, hr, hs, hT, hT', hk, q⟩
  subst e0
  refine ⟨rfl, ?_⟩
  obtain ⟨r1, r2⟩ := hr.rb hT
  obtain ⟨s1, s2⟩ := hs.rb hT'
  have dp : (0 : Int) < r.den := by have := r.den_pos; omega
  have dp' : (0 : Int) < s.den := by have := s.den_pos; omega
  conv => whnf
  refine ⟨mul_ok r1 s2 (by omega), ?_⟩
  conv => whnf
  refine ⟨mul_ok s1 r2 (by omega), ?_⟩
  conv => whnf
  refine ⟨mul_ok r2 s2 (by omega), ?_⟩
  ((conv => whnf); repeat' (first | (refine wIf_tt ?_; conv => whnf) | (refine wIf_ff ?_; conv => whnf) | (refine wIf.mk (fun hif => (have hif := of_decide_eq_true hif; ?_)) (fun hif => (have hif := of_decide_eq_false hif; ?_)) <;> (conv => whnf)) | (refine wIf_not ?_) | (refine ⟨(by decide : (_ : Int) ≠ 0), fun w _ hw => ?_⟩; replace hw := hw (by decide); conv => whnf) | (refine ⟨(by decide : (_ : Int) ≠ 0), div_lit (by decide), fun w _ hw => ?_⟩; replace hw := hw (by decide); conv => whnf) | (refine eq_rD ?_; conv => whnf) | (refine eq_ts ?_; conv => whnf) | (refine ne_ts ?_; conv => whnf) | (refine ne_rD ?_; conv => whnf) | (refine eq_vD ?_; conv => whnf) | (refine ne_vD ?_; conv => whnf) | (refine ⟨isi_ok rfl, ?_⟩; conv => whnf) | (apply wMulS.mk; (first | exact mul_l (by decide) (by decide) | exact mul_r (by decide) (by decide) | exact mul_ok (by l_ints) (by l_ints) (by decide)); conv => whnf) | (refine ⟨⟨by decide, by decide, by decide⟩, ?_⟩; conv => whnf) | (refine ⟨⟨by decide, by decide, by omega⟩, ?_⟩; conv => whnf) | (refine ⟨small_sz (Nat.le_of_ble_eq_true rfl), ?_⟩; conv => whnf) | fail))
  have hz : Bd (j + j') ((r.den : Int) * s.den) := hr.d.mul hs.d
  have hzp : 0 < (r.den : Int) * s.den := Int.mul_pos dp dp'
  refine low2 g80 hzp (hz.mono (by omega)) ?_
  conv => whnf
  have x1 : Rat.divInt (r.num * s.den + s.num * r.den) (r.den * s.den) = r + s := by
    conv => rhs; rw [← Rat.num_divInt_den r, ← Rat.num_divInt_den s]
    rw [Rat.divInt_add_divInt _ _ (by omega) (by omega)]
  refine q _ x1 (ShB.low hzp ?_ hz)
  refine Nat.le_trans (Int.natAbs_add_le _ _) ?_
  rw [Int.natAbs_mul, Int.natAbs_mul, Int.natAbs_mul, Nat.add_mul]
  have h1 := hr.n
  have h2 := hs.n
  simp only [Int.natAbs_natCast]
  refine Nat.add_le_add ?_ ?_
  · rw [← Nat.mul_assoc]; exact Nat.mul_le_mul_right _ h1
  · refine Nat.le_trans (Nat.mul_le_mul_right _ h2) (Nat.le_of_eq ?_)
    grind
theorem PlB.mono {M k M' k' : Nat} {e n : Rat} (h : PlB M k e n) (a : M ≤ M') (b : k ≤ k') : PlB M' k' e n := ⟨h.z.mono b, Nat.le_trans h.x (Nat.mul_le_mul_right _ a), Nat.le_trans h.y (Nat.mul_le_mul_right _ a)⟩
theorem ShB.mono {T j T' j' : Nat} {r : Rat} (h : ShB T j r) (a : T ≤ T') (b : j ≤ j') : ShB T' j' r := ⟨h.d.mono b, Nat.le_trans h.n (Nat.mul_le_mul_right _ a)⟩
theorem atI_get {α : Type} {f : α → D} {xs : List α} {i : Nat} {x : α} (h : xs[i]? = some x) : atI (xs.map f) (i : Int) = some (f x) := by
  have hi : i < xs.length := by
    rcases Nat.lt_or_ge i xs.length with g | g
    · exact g
    · rw [List.getElem?_eq_none g] at h; cases h
  rw [atI_at (by omega) (by rw [List.length_map]; omega), Int.toNat_natCast, List.getElem?_map, h]
  rfl
structure CrOk (ws : List Wt) (cr : List (List Sh)) : Prop where
  len : cr.length ≤ 12
  at_ : ∀ (i : Nat) (c : List Sh), cr[i]? = some c → ∃ w, ws[i]? = some w ∧ WtOk 140 12 w ∧ c.length ≤ 12 ∧ ∀ s ∈ c, s.1 < w.1.length ∧ ShB 1024 10 s.2
def courseD (cr : List (List Sh)) : D := .tuple (cr.map sharesD)
theorem pl00 : PlB 0 1 0 0 := by
  have h : plc 0 0 = (0, 0, 1) := by decide
  exact ⟨by rw [h]; decide, by rw [h]; decide, by rw [h]; decide⟩
theorem pd00b : PD 0 0 = .tuple [.int 0, .int 0, .int 1] := by
  have : plc 0 0 = (0, 0, 1) := by decide
  unfold PD
  rw [this]
  rfl
def legE (w : Wt) (c : List Sh) : Rat := qtot (eF w.1) c + (w.2.1 : Rat) * qtot one1 c
def legN (w : Wt) (c : List Sh) : Rat := qtot (nF w.1) c + (w.2.2 : Rat) * qtot one1 c
def endE : List Wt → List (List Sh) → Rat
  | w :: ws, c :: cr => legE w c + endE ws cr
  | _, _ => 0
def endN : List Wt → List (List Sh) → Rat
  | w :: ws, c :: cr => legN w c + endN ws cr
  | _, _ => 0
theorem endE_snoc : ∀ (ws : List Wt) (cr : List (List Sh)) (i : Nat) (w : Wt) (c : List Sh), ws[i]? = some w → cr[i]? = some c → endE ws (cr.take (i + 1)) = endE ws (cr.take i) + legE w c
  | [], _, i, w, c, h, _ => by simp at h
  | _ :: _, [], i, w, c, _, h => by simp at h
  | w0 :: ws, c0 :: cr, 0, w, c, h1, h2 => by
    simp at h1 h2
    subst h1 h2
    show legE w0 c0 + endE ws [] = 0 + legE w0 c0
    have : endE ws [] = 0 := by cases ws <;> rfl
    rw [this]
    grind
  | w0 :: ws, c0 :: cr, i + 1, w, c, h1, h2 => by
    have ih := endE_snoc ws cr i w c (by simpa using h1) (by simpa using h2)
    show legE w0 c0 + endE ws (cr.take (i + 1)) = legE w0 c0 + endE ws (cr.take i) + legE w c
    rw [ih]
    grind
theorem endN_snoc : ∀ (ws : List Wt) (cr : List (List Sh)) (i : Nat) (w : Wt) (c : List Sh), ws[i]? = some w → cr[i]? = some c → endN ws (cr.take (i + 1)) = endN ws (cr.take i) + legN w c
  | [], _, i, w, c, h, _ => by simp at h
  | _ :: _, [], i, w, c, _, h => by simp at h
  | w0 :: ws, c0 :: cr, 0, w, c, h1, h2 => by
    simp at h1 h2
    subst h1 h2
    show legN w0 c0 + endN ws [] = 0 + legN w0 c0
    have : endN ws [] = 0 := by cases ws <;> rfl
    rw [this]
    grind
  | w0 :: ws, c0 :: cr, i + 1, w, c, h1, h2 => by
    have ih := endN_snoc ws cr i w c (by simpa using h1) (by simpa using h2)
    show legN w0 c0 + endN ws (cr.take (i + 1)) = legN w0 c0 + endN ws (cr.take i) + legN w c
    rw [ih]
    grind
theorem end_nil (ws : List Wt) : endE ws [] = 0 ∧ endN ws [] = 0 := by cases ws <;> exact ⟨rfl, rfl⟩
def sp_law_end_2 : DSp := fun ds Q X => ∃ (ws : List Wt) (cr : List (List Sh)), ds = [watD ws, courseD cr] ∧ CrOk ws cr ∧ ∀ e n, e = endE ws cr → n = endN ws cr → PlB (2 ^ 160) 3100 e n → Q (.d (PD e n))
theorem p_law_end_2 {G : Nat → DSp} (g90 : G 90 = sp_law_add) (g81 : G 81 = sp_law_sum_2) : FnW G 7 2 m_law_end_2 sp_law_end_2 := by
  intro ds Q X ⟨ws, cr, e0, hc, q⟩
  subst e0
  refine ⟨rfl, ?_⟩
  have hcl := hc.len
  have hlen : ((cr.map sharesD).length : Int) = cr.length := by simp
  ((conv => whnf); repeat' (first | (refine wIf_tt ?_; conv => whnf) | (refine wIf_ff ?_; conv => whnf) | (refine wIf.mk (fun hif => (have hif := of_decide_eq_true hif; ?_)) (fun hif => (have hif := of_decide_eq_false hif; ?_)) <;> (conv => whnf)) | (refine wIf_not ?_) | (refine ⟨(by decide : (_ : Int) ≠ 0), fun w _ hw => ?_⟩; replace hw := hw (by decide); conv => whnf) | (refine ⟨(by decide : (_ : Int) ≠ 0), div_lit (by decide), fun w _ hw => ?_⟩; replace hw := hw (by decide); conv => whnf) | (refine eq_rD ?_; conv => whnf) | (refine eq_ts ?_; conv => whnf) | (refine ne_ts ?_; conv => whnf) | (refine ne_rD ?_; conv => whnf) | (refine eq_vD ?_; conv => whnf) | (refine ne_vD ?_; conv => whnf) | (refine ⟨isi_ok rfl, ?_⟩; conv => whnf) | (apply wMulS.mk; (first | exact mul_l (by decide) (by decide) | exact mul_r (by decide) (by decide) | exact mul_ok (by l_ints) (by l_ints) (by decide)); conv => whnf) | (refine ⟨⟨by decide, by decide, by decide⟩, ?_⟩; conv => whnf) | (refine ⟨⟨by decide, by decide, by omega⟩, ?_⟩; conv => whnf) | (refine ⟨small_sz (Nat.le_of_ble_eq_true rfl), ?_⟩; conv => whnf) | fail))
  refine ⟨by rw [hlen]; exact Int.ofNat_le.mpr (small_sz (by omega)), by omega, ?_⟩
  conv => whnf
  refine ⟨rfl, ?_⟩
  refine rng_ind (fun i ρ => i ≤ cr.length ∧ ∃ (e n : Rat) (a b c d : Option DL.R), e = endE ws (cr.take i) ∧ n = endN ws (cr.take i) ∧ PlB (i * 2 ^ 155) (1 + i * 250) e n ∧ ρ = [some (.d (watD ws)), some (.d (courseD cr)), some (.d (PD e n)), a, b, c, d]) _ ?_ ?_ _ ⟨by omega, 0, 0, none, none, none, none, (end_nil ws).1.symm, (end_nil ws).2.symm, pl00.mono (by omega) (by omega), by rw [pd00b]; rfl⟩
  · rintro ρ ⟨hi, e, n, a, b, c, d, ee, en, hp, rfl⟩
    rw [List.take_of_length_le (by omega)] at ee en
    have hi : ((cr.map sharesD).length : Int).toNat ≤ 12 := by omega
    conv => whnf
    exact q e n ee en (hp.mono (Nat.le_trans (Nat.mul_le_mul_right _ hi) (by decide)) (by omega))
  rintro i ρ hi ⟨_, e, n, a, b, c, d, ee, en, hp, rfl⟩ nx hnx
  have hi : i < cr.length := by omega
  obtain ⟨sh, hsh⟩ : ∃ sh, cr[i]? = some sh := ⟨_, List.getElem?_eq_getElem hi⟩
  obtain ⟨w, hw, ow, hl, hs⟩ := hc.at_ i sh hsh
  have a1 := atI_get (f := sharesD) hsh
  have a2 := atI_get (f := wtD) hw
  ((conv => whnf); repeat' (first | (rw [a1]; conv => whnf) | (refine wIf_tt ?_; conv => whnf) | (refine wIf_ff ?_; conv => whnf) | (refine wIf.mk (fun hif => (have hif := of_decide_eq_true hif; ?_)) (fun hif => (have hif := of_decide_eq_false hif; ?_)) <;> (conv => whnf)) | (refine wIf_not ?_) | (refine ⟨(by decide : (_ : Int) ≠ 0), fun w _ hw => ?_⟩; replace hw := hw (by decide); conv => whnf) | (refine ⟨(by decide : (_ : Int) ≠ 0), div_lit (by decide), fun w _ hw => ?_⟩; replace hw := hw (by decide); conv => whnf) | (refine eq_rD ?_; conv => whnf) | (refine eq_ts ?_; conv => whnf) | (refine ne_ts ?_; conv => whnf) | (refine ne_rD ?_; conv => whnf) | (refine eq_vD ?_; conv => whnf) | (refine ne_vD ?_; conv => whnf) | (refine ⟨isi_ok rfl, ?_⟩; conv => whnf) | (apply wMulS.mk; (first | exact mul_l (by decide) (by decide) | exact mul_r (by decide) (by decide) | exact mul_ok (by l_ints) (by l_ints) (by decide)); conv => whnf) | (refine ⟨⟨by decide, by decide, by decide⟩, ?_⟩; conv => whnf) | (refine ⟨⟨by decide, by decide, by omega⟩, ?_⟩; conv => whnf) | (refine ⟨small_sz (Nat.le_of_ble_eq_true rfl), ?_⟩; conv => whnf) | fail))
  refine ⟨rfl, ?_⟩
  refine forLoop_ind (fun ds ρ => ∃ (k : Nat) (us qs : List Sh) (e' n' t : Rat) (c d : Option DL.R), us ++ qs = sh ∧ e' = e + qtot (eF w.1) us ∧ n' = n + qtot (nF w.1) us ∧ t = qtot one1 us ∧ ds = qs.map shD ∧ k + qs.length ≤ 12 ∧ (∀ s ∈ qs, s.1 < w.1.length ∧ ShB 1024 10 s.2) ∧ PlB (i * 2 ^ 155 + k * 2 ^ 150) (1 + i * 250 + 10 * k) e' n' ∧ ShB (k * 1024) (1 + 10 * k) t ∧ ρ = [some (.d (watD ws)), some (.d (courseD cr)), some (.d (PD e' n')), some (.d (.int i)), some (.d (rD t)), c, d]) ?_ ?_ _ _ ⟨0, [], sh, e, n, 0, _, _, rfl, by rw [qtot_nil]; grind, by rw [qtot_nil]; grind, rfl, rfl, by omega, hs, hp.mono (by omega) (by omega), ⟨by decide, by decide⟩, rfl⟩
  · rintro ρ ⟨k, us, qs, e', n', t, c, d, eus, ee', en', et, e1, h1, h2, h3, h4, rfl⟩
    have hk : k ≤ 12 := by omega
    have : qs = [] := by simpa using e1.symm
    subst this
    rw [List.append_nil] at eus
    subst eus
    conv => whnf
    rw [a2]
    conv => whnf
    refine gC g90 ⟨e', n', w.2, t, _, _, _, _, rfl, h3.mono (Nat.add_le_add_left (Nat.mul_le_mul_right _ hk) _) (show 1 + i * 250 + 10 * k ≤ 1 + i * 250 + 120 by omega), ow.st, h4.mono (show k * 1024 ≤ 12288 by omega) (show 1 + 10 * k ≤ 121 by omega), ?_, by decide, by omega, fun e2 n2 q1 q2 hp' => ?_⟩
    · have : i * 2 ^ 155 ≤ 12 * 2 ^ 155 := Nat.mul_le_mul_right _ (by omega)
      refine Nat.lt_of_le_of_lt (Nat.add_le_add_right this _) (by decide)
    conv => whnf
    refine hnx _ ⟨by omega, e2, n2, _, _, _, _, ?_, ?_, hp'.mono ?_ (by omega), rfl⟩
    · rw [endE_snoc ws cr i w us hw hsh, q1, ee', et, ee]
      unfold legE
      grind
    · rw [endN_snoc ws cr i w us hw hsh, q2, en', et, en]
      unfold legN
      grind
    rw [Nat.add_mul, Nat.add_assoc]
    exact Nat.add_le_add_left (by decide) _
  rintro d0 ds ρ ⟨k, us, qs, e', n', t, c, d, eus, ee', en', et, e1, h1, h2, h3, h4, rfl⟩ nx2 hnx2
  cases qs with
  | nil => cases e1
  | cons s qs =>
    cases e1
    obtain ⟨s1, s2⟩ := h2 s List.mem_cons_self
    simp at h1
    have a3 := atI_v s1
    have hvb := vAt_bd ow.vb s.1
    have hiM : i * 2 ^ 155 ≤ 12 * 2 ^ 155 := Nat.mul_le_mul_right _ (by omega)
    have hkM : k * 2 ^ 150 ≤ 12 * 2 ^ 150 := Nat.mul_le_mul_right _ (by omega)
    conv => whnf
    rw [a2]
    conv => whnf
    rw [a3]
    conv => whnf
    refine gC g90 ⟨e', n', _, s.2, _, _, _, _, rfl, h3, hvb, s2, Nat.lt_of_le_of_lt (Nat.add_le_add hiM hkM) (by decide), by decide, by omega, fun e2 n2 q1 q2 hp' => ?_⟩
    conv => whnf
    refine gC g81 ⟨t, s.2, _, _, _, _, rfl, h4, s2, Nat.lt_of_le_of_lt (show k * 1024 ≤ 12 * 1024 by omega) (by decide), by decide, by omega, fun t' q3 ht' => ?_⟩
    conv => whnf
    refine hnx2 _ ⟨k + 1, us ++ [s], qs, e2, n2, t', _, _, by rw [← eus]; simp, ?_, ?_, ?_, rfl, by omega, fun u hu => h2 u (List.mem_cons_of_mem _ hu), hp'.mono ?_ (by omega), ht'.mono (by omega) (by omega), rfl⟩
    · rw [q1, ee', qtot_snoc]
      unfold eF
      grind
    · rw [q2, en', qtot_snoc]
      unfold nF
      grind
    · rw [q3, et, qtot_snoc]
      have : ((one1 s.1 : Int) : Rat) = 1 := rfl
      rw [this]
      grind
    · rw [Nat.add_mul, Nat.add_assoc]
      exact Nat.add_le_add_left (Nat.add_le_add_left (by decide) _) _
theorem ixN_natG {n : Nat} {i : Int} (h0 : 0 ≤ i) (h1 : i < n) : ixN n i = some i.toNat := by
  unfold ixN
  rw [if_pos h0, if_pos h1]
theorem sum_set {ts : List Int} {i : Nat} {t z : Int} (h : ts[i]? = some t) : (ts.set i (t + z)).sum = ts.sum + z := by
  induction ts generalizing i with
  | nil => simp at h
  | cons u ts ih =>
    cases i with
    | zero =>
      simp at h
      subst h
      simp
      omega
    | succ i =>
      have := ih (i := i) (by simpa using h)
      simp
      omega
def sp_law_parts : DSp := fun ds Q X => ∃ (c m b : Int), ds = [.int c, .int m, .int b] ∧ 1 ≤ m ∧ m ≤ 1000 ∧ 1 ≤ b ∧ b ≤ 60 ∧ ∀ ts : List Int, (ts.length : Int) = m → (∀ t ∈ ts, 0 ≤ t ∧ t ≤ 180) → ts.sum = b → Q (.d (.list (ts.map .int)))
theorem p_law_parts {G : Nat → DSp} (g43 : G 43 = sp_law_draw) : FnW G 10 3 m_law_parts sp_law_parts := by
  intro ds Q X ⟨c, m, b, e, h1, h2, h3, h4, q⟩
  subst e
  refine ⟨rfl, ?_⟩
  have dr : ∀ (a k m : Int) (W : R → Prop) {X : Nat → Prop}, (0 ≤ k ∧ k ≤ 1000000 ∧ 0 < m) → (∀ z : Int, 0 ≤ z → z < m → W (.d (.int z))) → G 43 [.int a, .int k, .int m] W X := fun a k m W _ hh h => gC g43 ⟨a, k, m, rfl, hh.1, hh.2.1, hh.2.2, h⟩
  conv => whnf
  refine dr c 31 (b + 1) _ (by omega) fun cut hc1 hc2 => ?_
  conv => whnf
  refine dr c 32 m _ (by omega) fun i1 hi1 hi1' => ?_
  conv => whnf
  refine dr c 33 m _ (by omega) fun i2 hi2 hi2' => ?_
  conv => whnf
  refine dr c 34 m _ (by omega) fun i3 hi3 hi3' => ?_
  conv => whnf
  refine dr c 35 (b - cut + 1) _ (by omega) fun rest hr1 hr2 => ?_
  obtain ⟨mn, rfl⟩ := Int.eq_ofNat_of_zero_le (show 0 ≤ m by omega)
  ((conv => whnf); repeat' (first | (refine wIf_tt ?_; conv => whnf) | (refine wIf_ff ?_; conv => whnf) | (refine wIf.mk (fun hif => (have hif := of_decide_eq_true hif; ?_)) (fun hif => (have hif := of_decide_eq_false hif; ?_)) <;> (conv => whnf)) | (refine wIf_not ?_) | (refine ⟨(by decide : (_ : Int) ≠ 0), fun w _ hw => ?_⟩; replace hw := hw (by decide); conv => whnf) | (refine ⟨(by decide : (_ : Int) ≠ 0), div_lit (by decide), fun w _ hw => ?_⟩; replace hw := hw (by decide); conv => whnf) | (refine eq_rD ?_; conv => whnf) | (refine eq_ts ?_; conv => whnf) | (refine ne_ts ?_; conv => whnf) | (refine ne_rD ?_; conv => whnf) | (refine eq_vD ?_; conv => whnf) | (refine ne_vD ?_; conv => whnf) | (refine ⟨isi_ok rfl, ?_⟩; conv => whnf) | (apply wMulS.mk; (first | exact mul_l (by decide) (by decide) | exact mul_r (by decide) (by decide) | exact mul_ok (by l_ints) (by l_ints) (by decide)); conv => whnf) | (refine ⟨⟨by decide, by decide, by decide⟩, ?_⟩; conv => whnf) | (refine ⟨⟨by decide, by decide, by omega⟩, ?_⟩; conv => whnf) | (refine ⟨small_sz (Nat.le_of_ble_eq_true rfl), ?_⟩; conv => whnf) | fail))
  refine ⟨Int.le_trans h2 (by decide), by omega, ?_⟩
  conv => whnf
  refine lc_rng (fun i acc => acc = (List.replicate i (0 : Int)).map .int) mn ?_ ?_ rfl
  case refine_2 =>
    rintro i acc hi rfl k hk
    conv => whnf
    refine wIf_tt ?_
    conv => whnf
    refine hk _ ?_
    rw [List.replicate_succ', List.map_append]
    rfl
  rintro acc rfl
  have up : ∀ (ts : List Int) (i z lo hi : Int), ts.length = mn → (∀ t ∈ ts, 0 ≤ t ∧ t ≤ hi) → 0 ≤ i → i < mn → 0 ≤ z → z ≤ 60 → ∃ t, atI (ts.map PyData.int) i = some (.int t) ∧ ixN (ts.map PyData.int).length i = some i.toNat ∧ ((ts.map PyData.int).set i.toNat (.int (t + z)) = (ts.set i.toNat (t + z)).map .int) ∧ (ts.set i.toNat (t + z)).length = mn ∧ (∀ u ∈ ts.set i.toNat (t + z), 0 ≤ u ∧ u ≤ hi + 60) ∧ (ts.set i.toNat (t + z)).sum = ts.sum + z := fun ts i z lo hi hl hb h0 h1 hz hz2 => by
    obtain ⟨t, ht, a1⟩ := atI_maps (f := PyData.int) (xs := ts) (i := i) (by omega) (by omega)
    refine ⟨t, a1, ixN_natG h0 (by rw [List.length_map]; omega), (List.map_set).symm, by rw [List.length_set]; exact hl, fun u hu => ?_, ?_⟩
    rotate_left
    · have e0 : ts[i.toNat]? = some t := by
        have a2 := a1
        rw [atI_at h0 (by rw [List.length_map]; omega), List.getElem?_map] at a2
        cases q : ts[i.toNat]? with
        | none => rw [q] at a2; cases a2
        | some x => rw [q] at a2; cases a2; rfl
      exact sum_set e0
    have hbt := hb t ht
    rcases List.mem_or_eq_of_mem_set hu with h | h
    · have := hb u h; omega
    · omega
  obtain ⟨t1, a1, b1, c1, l1, m1, s1⟩ := up (List.replicate mn 0) i1 cut 0 0 (by simp) (by simp) hi1 hi1' hc1 (by omega)
  ((conv => whnf); repeat' (first | (refine wIf_tt ?_; conv => whnf) | (refine wIf_ff ?_; conv => whnf) | (refine wIf.mk (fun hif => (have hif := of_decide_eq_true hif; ?_)) (fun hif => (have hif := of_decide_eq_false hif; ?_)) <;> (conv => whnf)) | (refine wIf_not ?_) | (refine ⟨(by decide : (_ : Int) ≠ 0), fun w _ hw => ?_⟩; replace hw := hw (by decide); conv => whnf) | (refine ⟨(by decide : (_ : Int) ≠ 0), div_lit (by decide), fun w _ hw => ?_⟩; replace hw := hw (by decide); conv => whnf) | (refine eq_rD ?_; conv => whnf) | (refine eq_ts ?_; conv => whnf) | (refine ne_ts ?_; conv => whnf) | (refine ne_rD ?_; conv => whnf) | (refine eq_vD ?_; conv => whnf) | (refine ne_vD ?_; conv => whnf) | (refine ⟨isi_ok rfl, ?_⟩; conv => whnf) | (apply wMulS.mk; (first | exact mul_l (by decide) (by decide) | exact mul_r (by decide) (by decide) | exact mul_ok (by l_ints) (by l_ints) (by decide)); conv => whnf) | (refine ⟨⟨by decide, by decide, by decide⟩, ?_⟩; conv => whnf) | (refine ⟨⟨by decide, by decide, by omega⟩, ?_⟩; conv => whnf) | (refine ⟨small_sz (Nat.le_of_ble_eq_true rfl), ?_⟩; conv => whnf) | fail))
  rw [a1]
  conv => whnf
  rw [b1]
  conv => whnf
  rw [c1]
  obtain ⟨t2, a2, b2, c2, l2, m2, s2⟩ := up _ i2 rest 0 _ l1 m1 hi2 hi2' hr1 (by omega)
  conv => whnf
  rw [a2]
  conv => whnf
  rw [b2]
  conv => whnf
  rw [c2]
  obtain ⟨t3, a3, b3, c3, l3, m3, s3⟩ := up _ i3 (b - cut - rest) 0 _ l2 m2 hi3 hi3' (by omega) (by omega)
  have e3 : t3 + b - cut - rest = t3 + (b - cut - rest) := by omega
  conv => whnf
  rw [a3]
  conv => whnf
  rw [e3]
  rw [b3]
  conv => whnf
  rw [c3]
  ((conv => whnf); repeat' (first | (refine wIf_tt ?_; conv => whnf) | (refine wIf_ff ?_; conv => whnf) | (refine wIf.mk (fun hif => (have hif := of_decide_eq_true hif; ?_)) (fun hif => (have hif := of_decide_eq_false hif; ?_)) <;> (conv => whnf)) | (refine wIf_not ?_) | (refine ⟨(by decide : (_ : Int) ≠ 0), fun w _ hw => ?_⟩; replace hw := hw (by decide); conv => whnf) | (refine ⟨(by decide : (_ : Int) ≠ 0), div_lit (by decide), fun w _ hw => ?_⟩; replace hw := hw (by decide); conv => whnf) | (refine eq_rD ?_; conv => whnf) | (refine eq_ts ?_; conv => whnf) | (refine ne_ts ?_; conv => whnf) | (refine ne_rD ?_; conv => whnf) | (refine eq_vD ?_; conv => whnf) | (refine ne_vD ?_; conv => whnf) | (refine ⟨isi_ok rfl, ?_⟩; conv => whnf) | (apply wMulS.mk; (first | exact mul_l (by decide) (by decide) | exact mul_r (by decide) (by decide) | exact mul_ok (by l_ints) (by l_ints) (by decide)); conv => whnf) | (refine ⟨⟨by decide, by decide, by decide⟩, ?_⟩; conv => whnf) | (refine ⟨⟨by decide, by decide, by omega⟩, ?_⟩; conv => whnf) | (refine ⟨small_sz (Nat.le_of_ble_eq_true rfl), ?_⟩; conv => whnf) | fail))
  exact q _ (by omega) m3 (by rw [s3, s2, s1]; simp; omega)
theorem sum_bd (ts : List Int) (h : ∀ t ∈ ts, 1 ≤ t ∧ t ≤ 5) : (ts.length : Int) ≤ ts.sum ∧ ts.sum ≤ 5 * ts.length := by
  induction ts with
  | nil => simp
  | cons t ts ih =>
    have h1 := h t List.mem_cons_self
    have h2 := ih fun u hu => h u (List.mem_cons_of_mem _ hu)
    rw [List.sum_cons, List.length_cons]
    omega
structure CrG (ws : List Wt) (cr : List (List Sh)) : Prop where
  len : cr.length = ws.length
  by_ : ∀ (i : Nat) (c : List Sh) (w : Wt), cr[i]? = some c → ws[i]? = some w → ∃ b, b ≤ 60 ∧ ShBy w.1.length b c
def sp_law_course : DSp := fun ds Q X => ∃ (ws : List Wt) (c : Int), ds = [watD ws, .int c] ∧ ws.length ≤ 12 ∧ (∀ w ∈ ws, WtOk 140 12 w) ∧ ∀ cr, CrOk ws cr → CrG ws cr → Q (.d (courseD cr))
theorem p_law_course {G : Nat → DSp} (g43 : G 43 = sp_law_draw) (g88 : G 88 = sp_law_parts) (g80 : G 80 = sp_law_lowest_2) : FnW G 7 2 m_law_course sp_law_course := by
  intro ds Q X ⟨ws, c, e, hl, hw, q⟩
  subst e
  refine ⟨rfl, ?_⟩
  have dr : ∀ (a k m : Int) (W : R → Prop) {X : Nat → Prop}, (0 ≤ k ∧ k ≤ 1000000 ∧ 0 < m) → (∀ z : Int, 0 ≤ z → z < m → W (.d (.int z))) → G 43 [.int a, .int k, .int m] W X := fun a k m W _ hh h => gC g43 ⟨a, k, m, rfl, hh.1, hh.2.1, hh.2.2, h⟩
  have hlen : ((ws.map wtD).length : Int) = ws.length := by simp
  ((conv => whnf); repeat' (first | (refine wIf_tt ?_; conv => whnf) | (refine wIf_ff ?_; conv => whnf) | (refine wIf.mk (fun hif => (have hif := of_decide_eq_true hif; ?_)) (fun hif => (have hif := of_decide_eq_false hif; ?_)) <;> (conv => whnf)) | (refine wIf_not ?_) | (refine ⟨(by decide : (_ : Int) ≠ 0), fun w _ hw => ?_⟩; replace hw := hw (by decide); conv => whnf) | (refine ⟨(by decide : (_ : Int) ≠ 0), div_lit (by decide), fun w _ hw => ?_⟩; replace hw := hw (by decide); conv => whnf) | (refine eq_rD ?_; conv => whnf) | (refine eq_ts ?_; conv => whnf) | (refine ne_ts ?_; conv => whnf) | (refine ne_rD ?_; conv => whnf) | (refine eq_vD ?_; conv => whnf) | (refine ne_vD ?_; conv => whnf) | (refine ⟨isi_ok rfl, ?_⟩; conv => whnf) | (apply wMulS.mk; (first | exact mul_l (by decide) (by decide) | exact mul_r (by decide) (by decide) | exact mul_ok (by l_ints) (by l_ints) (by decide)); conv => whnf) | (refine ⟨⟨by decide, by decide, by decide⟩, ?_⟩; conv => whnf) | (refine ⟨⟨by decide, by decide, by omega⟩, ?_⟩; conv => whnf) | (refine ⟨small_sz (Nat.le_of_ble_eq_true rfl), ?_⟩; conv => whnf) | fail))
  refine ⟨by rw [hlen]; exact Int.ofNat_le.mpr (small_sz (by omega)), by omega, ?_⟩
  conv => whnf
  refine ⟨rfl, ?_⟩
  refine rng_ind (fun i ρ => i ≤ ws.length ∧ ∃ (cr : List (List Sh)) (x y z : Option DL.R), (cr.length = i ∧ ∀ (j : Nat) (sh : List Sh), cr[j]? = some sh → ∃ w, ws[j]? = some w ∧ WtOk 140 12 w ∧ sh.length ≤ 12 ∧ (∀ s ∈ sh, s.1 < w.1.length ∧ ShB 1024 10 s.2) ∧ ∃ b, b ≤ 60 ∧ ShBy w.1.length b sh) ∧ ρ = [some (.d (watD ws)), some (.d (.int c)), some (.l (cr.map sharesD) true), x, y, z, none]) _ ?_ ?_ _ ⟨by omega, [], none, none, none, ⟨rfl, by simp⟩, rfl⟩
  · rintro ρ ⟨_, cr, x, y, z, ⟨h1, h2⟩, rfl⟩
    conv => whnf
    refine q cr ⟨?_, fun j sh hj => ?_⟩ ⟨by omega, fun j sh w hj hw => ?_⟩
    · omega
    · obtain ⟨w, q1, q2, q3, q4, _⟩ := h2 j sh hj
      exact ⟨w, q1, q2, q3, q4⟩
    · obtain ⟨w', q1, _, _, _, q5⟩ := h2 j sh hj
      rw [hw] at q1
      cases q1
      exact q5
  rintro i ρ hi ⟨_, cr, x, y, z, ⟨h1, h2⟩, rfl⟩ nx hnx
  have hi : i < ws.length := by omega
  obtain ⟨w, hwi⟩ : ∃ w, ws[i]? = some w := ⟨_, List.getElem?_eq_getElem hi⟩
  have ow := hw w (List.mem_of_getElem? hwi)
  have a1 := atI_get (f := wtD) hwi
  have hn1 := List.length_pos_iff.mpr ow.ne
  have hn2 := ow.len
  have hlv : ((w.1.map vD).length : Int) = w.1.length := by simp
  have done : ∀ (ts : List Int) (b : Int), ts.length = w.1.length → (∀ t ∈ ts, 0 ≤ t ∧ t ≤ 180) → 1 ≤ b → b ≤ 60 → ts.sum = b → ∀ x y z, nx [some (.d (watD ws)), some (.d (.int c)), some (.l (cr.map sharesD ++ [sharesD (shW b (wPairs ts w.1.length))]) true), x, y, z, none] := fun ts b e1 e2 e3 e4 e5 x y z => by
    have sb := shby_of (n := w.1.length) (ws := ts) e1 (by omega) (fun t ht => by have := e2 t ht; omega) (by omega)
    rw [e5] at sb
    refine hnx _ ⟨by omega, cr ++ [shW b (wPairs ts w.1.length)], x, y, z, ⟨by simp; omega, fun j sh hj => ?_⟩, by rw [List.map_append]; rfl⟩
    rcases Nat.lt_trichotomy j cr.length with h | h | h
    · rw [List.getElem?_append_left h] at hj
      exact h2 j sh hj
    · subst h
      rw [List.getElem?_append_right (Nat.le_refl _), Nat.sub_self] at hj
      cases hj
      refine ⟨w, by rw [h1]; exact hwi, ow, ?_, fun s hs => ?_, b, e4, sb⟩
      · unfold shW wPairs
        rw [List.length_map]
        refine Nat.le_trans (List.length_filter_le _ _) ?_
        rw [List.length_map, List.length_range]
        exact hn2
      · unfold shW at hs
        obtain ⟨p, hp, rfl⟩ := List.mem_map.mp hs
        obtain ⟨hp, hp0⟩ := List.mem_filter.mp hp
        unfold wPairs at hp
        obtain ⟨k, hk, rfl⟩ := List.mem_map.mp hp
        have hk := List.mem_range.mp hk
        have e0 : ts.getD k 0 = ts[k]'(by omega) := by rw [List.getD_eq_getElem?_getD, List.getElem?_eq_getElem (by omega)]; rfl
        have := e2 (ts[k]'(by omega)) (List.getElem_mem _)
        refine ⟨hk, ShB.low (by omega) ?_ (bd_of (by omega) (by omega))⟩
        dsimp only
        rw [e0]
        omega
    · rw [List.getElem?_eq_none (by simp; omega)] at hj
      cases hj
  conv => whnf
  refine ⟨small_sz (by decide), ?_⟩
  conv => whnf
  refine dr _ 39 3 _ (by decide) fun z0 hz01 hz02 => ?_
  obtain ⟨sz, e1, hsz⟩ := pick3 (i := z0) (a := 1) (b := 6) (c := 60) hz01 hz02
  have hsz2 : 1 ≤ sz ∧ sz ≤ 60 := by omega
  conv => whnf
  rw [e1]
  conv => whnf
  refine dr _ (40 + (i : Int)) sz _ (by omega) fun z1 hz11 hz12 => ?_
  ((conv => whnf); repeat' (first | (refine wIf_tt ?_; conv => whnf) | (refine wIf_ff ?_; conv => whnf) | (refine wIf.mk (fun hif => (have hif := of_decide_eq_true hif; ?_)) (fun hif => (have hif := of_decide_eq_false hif; ?_)) <;> (conv => whnf)) | (refine wIf_not ?_) | (refine ⟨(by decide : (_ : Int) ≠ 0), fun w _ hw => ?_⟩; replace hw := hw (by decide); conv => whnf) | (refine ⟨(by decide : (_ : Int) ≠ 0), div_lit (by decide), fun w _ hw => ?_⟩; replace hw := hw (by decide); conv => whnf) | (refine eq_rD ?_; conv => whnf) | (refine eq_ts ?_; conv => whnf) | (refine ne_ts ?_; conv => whnf) | (refine ne_rD ?_; conv => whnf) | (refine eq_vD ?_; conv => whnf) | (refine ne_vD ?_; conv => whnf) | (refine ⟨isi_ok rfl, ?_⟩; conv => whnf) | (apply wMulS.mk; (first | exact mul_l (by decide) (by decide) | exact mul_r (by decide) (by decide) | exact mul_ok (by l_ints) (by l_ints) (by decide)); conv => whnf) | (refine ⟨⟨by decide, by decide, by decide⟩, ?_⟩; conv => whnf) | (refine ⟨⟨by decide, by decide, by omega⟩, ?_⟩; conv => whnf) | (refine ⟨small_sz (Nat.le_of_ble_eq_true rfl), ?_⟩; conv => whnf) | fail))
  rw [a1]
  conv => whnf
  refine gC g88 ⟨_, (w.1.map vD).length, 1 + z1, rfl, by omega, by omega, by omega, by omega, fun ts ht1 ht2 ht3 => ?_⟩
  conv => whnf
  refine dr _ 38 4 _ (by decide) fun z2 _ _ => ?_
  conv => whnf
  refine wIf.mk (fun hz => ?_) (fun hz => ?_)
  · conv => whnf
    rw [a1]
    conv => whnf
    refine ⟨Int.ofNat_le.mpr (small_sz (by simp; omega)), by simp, ?_⟩
    conv => whnf
    refine lc_rng (fun i acc => ∃ us : List Int, acc = us.map .int ∧ us.length = i ∧ ∀ u ∈ us, 1 ≤ u ∧ u ≤ 5) (w.1.map vD).length ?_ ?_ ⟨[], rfl, by simp, by simp⟩
    case refine_2 =>
      rintro j acc hj ⟨us, rfl, h3, h4⟩ k hk
      have hj : j < w.1.length := by simpa using hj
      conv => whnf
      refine wIf_tt ?_
      conv => whnf
      refine dr _ (120 + (j : Int)) 5 _ (by omega) fun z3 hz31 hz32 => ?_
      conv => whnf
      refine hk _ ⟨us ++ [1 + z3], by rw [List.map_append]; rfl, by simp; omega, fun u hu => ?_⟩
      rcases List.mem_append.mp hu with h | h
      · exact h4 u h
      · rw [List.mem_singleton.mp h]; omega
    rintro acc ⟨us, rfl, h3, h4⟩
    have h3 : us.length = w.1.length := by simpa using h3
    have hsum := sum_bd us h4
    have HT : ∀ t ∈ us, 0 ≤ t ∧ t ≤ 180 := fun t ht => by have := h4 t ht; omega
    have HB1 : 0 < us.sum := by omega
    conv => whnf
    refine ⟨us, rfl, ?_⟩
    conv => whnf
    refine ⟨Int.ofNat_le.mpr (small_sz (by simp; omega)), by simp, ?_⟩
    conv => whnf
    refine lc_rng (fun i acc => i ≤ us.length ∧ acc = (shW us.sum (wPairs us i)).map shD) (us.map PyData.int).length ?_ ?_ ⟨by omega, rfl⟩
    case refine_2 =>
      rintro j acc hj ⟨_, rfl⟩ k hk
      have hj : j < us.length := by simpa using hj
      have a2 : atI (us.map PyData.int) (j : Int) = some (.int (us.getD j 0)) := by
        rw [atI_at (by omega) (by simp; omega)]
        simp [hj]
      have htb : 0 ≤ us.getD j 0 ∧ us.getD j 0 ≤ 180 := by
        have e0 : us.getD j 0 = us[j] := by rw [List.getD_eq_getElem?_getD, List.getElem?_eq_getElem hj]; rfl
        rw [e0]
        exact HT _ (List.getElem_mem _)
      obtain ⟨t, et⟩ : ∃ t, t = us.getD j 0 := ⟨_, rfl⟩
      rw [← et] at a2 htb
      conv => whnf
      rw [a2]
      conv => whnf
      refine wIf.mk (fun hp => ?_) (fun hp => ?_)
      · have hp : 0 < t := of_decide_eq_true hp
        conv => whnf
        rw [a2]
        ((conv => whnf); repeat' (first | (refine wIf_tt ?_; conv => whnf) | (refine wIf_ff ?_; conv => whnf) | (refine wIf.mk (fun hif => (have hif := of_decide_eq_true hif; ?_)) (fun hif => (have hif := of_decide_eq_false hif; ?_)) <;> (conv => whnf)) | (refine wIf_not ?_) | (refine ⟨(by decide : (_ : Int) ≠ 0), fun w _ hw => ?_⟩; replace hw := hw (by decide); conv => whnf) | (refine ⟨(by decide : (_ : Int) ≠ 0), div_lit (by decide), fun w _ hw => ?_⟩; replace hw := hw (by decide); conv => whnf) | (refine eq_rD ?_; conv => whnf) | (refine eq_ts ?_; conv => whnf) | (refine ne_ts ?_; conv => whnf) | (refine ne_rD ?_; conv => whnf) | (refine eq_vD ?_; conv => whnf) | (refine ne_vD ?_; conv => whnf) | (refine ⟨isi_ok rfl, ?_⟩; conv => whnf) | (apply wMulS.mk; (first | exact mul_l (by decide) (by decide) | exact mul_r (by decide) (by decide) | exact mul_ok (by l_ints) (by l_ints) (by decide)); conv => whnf) | (refine ⟨⟨by decide, by decide, by decide⟩, ?_⟩; conv => whnf) | (refine ⟨⟨by decide, by decide, by omega⟩, ?_⟩; conv => whnf) | (refine ⟨small_sz (Nat.le_of_ble_eq_true rfl), ?_⟩; conv => whnf) | fail))
        refine low2 g80 HB1 (bd40 (by omega) (by omega) |>.mono (by decide)) ?_
        ((conv => whnf); repeat' (first | (refine wIf_tt ?_; conv => whnf) | (refine wIf_ff ?_; conv => whnf) | (refine wIf.mk (fun hif => (have hif := of_decide_eq_true hif; ?_)) (fun hif => (have hif := of_decide_eq_false hif; ?_)) <;> (conv => whnf)) | (refine wIf_not ?_) | (refine ⟨(by decide : (_ : Int) ≠ 0), fun w _ hw => ?_⟩; replace hw := hw (by decide); conv => whnf) | (refine ⟨(by decide : (_ : Int) ≠ 0), div_lit (by decide), fun w _ hw => ?_⟩; replace hw := hw (by decide); conv => whnf) | (refine eq_rD ?_; conv => whnf) | (refine eq_ts ?_; conv => whnf) | (refine ne_ts ?_; conv => whnf) | (refine ne_rD ?_; conv => whnf) | (refine eq_vD ?_; conv => whnf) | (refine ne_vD ?_; conv => whnf) | (refine ⟨isi_ok rfl, ?_⟩; conv => whnf) | (apply wMulS.mk; (first | exact mul_l (by decide) (by decide) | exact mul_r (by decide) (by decide) | exact mul_ok (by l_ints) (by l_ints) (by decide)); conv => whnf) | (refine ⟨⟨by decide, by decide, by decide⟩, ?_⟩; conv => whnf) | (refine ⟨⟨by decide, by decide, by omega⟩, ?_⟩; conv => whnf) | (refine ⟨small_sz (Nat.le_of_ble_eq_true rfl), ?_⟩; conv => whnf) | fail))
        refine hk _ ⟨by omega, ?_⟩
        rw [wPairs_succ, ← et]
        unfold shW
        rw [List.filter_append, List.filter_cons_of_pos (by simpa using hp), List.filter_nil, List.map_append, List.map_append]
        rfl
      · have hp : ¬ t > 0 := of_decide_eq_false hp
        refine hk _ ⟨by omega, ?_⟩
        rw [wPairs_succ, ← et]
        unfold shW
        rw [List.filter_append, List.filter_cons_of_neg (by simpa using hp), List.filter_nil, List.append_nil]
    rintro acc ⟨_, rfl⟩
    conv => whnf
    refine ⟨by simp; exact small_lt (by omega), ?_⟩
    conv => whnf
    have el : (us.map PyData.int).length = w.1.length := by simpa using h3
    rw [el]
    exact done us us.sum (by omega) HT (by omega) (by omega) rfl _ _ _
  · conv => whnf
    have HT := ht2
    have HB1 : 0 < 1 + z1 := by omega
    refine ⟨Int.ofNat_le.mpr (small_sz (by simp; omega)), by simp, ?_⟩
    conv => whnf
    refine lc_rng (fun i acc => i ≤ ts.length ∧ acc = (shW (1 + z1) (wPairs ts i)).map shD) (ts.map PyData.int).length ?_ ?_ ⟨by omega, rfl⟩
    case refine_2 =>
      rintro j acc hj ⟨_, rfl⟩ k hk
      have hj : j < ts.length := by simpa using hj
      have a2 : atI (ts.map PyData.int) (j : Int) = some (.int (ts.getD j 0)) := by
        rw [atI_at (by omega) (by simp; omega)]
        simp [hj]
      have htb : 0 ≤ ts.getD j 0 ∧ ts.getD j 0 ≤ 180 := by
        have e0 : ts.getD j 0 = ts[j] := by rw [List.getD_eq_getElem?_getD, List.getElem?_eq_getElem hj]; rfl
        rw [e0]
        exact HT _ (List.getElem_mem _)
      obtain ⟨t, et⟩ : ∃ t, t = ts.getD j 0 := ⟨_, rfl⟩
      rw [← et] at a2 htb
      conv => whnf
      rw [a2]
      conv => whnf
      refine wIf.mk (fun hp => ?_) (fun hp => ?_)
      · have hp : 0 < t := of_decide_eq_true hp
        conv => whnf
        rw [a2]
        ((conv => whnf); repeat' (first | (refine wIf_tt ?_; conv => whnf) | (refine wIf_ff ?_; conv => whnf) | (refine wIf.mk (fun hif => (have hif := of_decide_eq_true hif; ?_)) (fun hif => (have hif := of_decide_eq_false hif; ?_)) <;> (conv => whnf)) | (refine wIf_not ?_) | (refine ⟨(by decide : (_ : Int) ≠ 0), fun w _ hw => ?_⟩; replace hw := hw (by decide); conv => whnf) | (refine ⟨(by decide : (_ : Int) ≠ 0), div_lit (by decide), fun w _ hw => ?_⟩; replace hw := hw (by decide); conv => whnf) | (refine eq_rD ?_; conv => whnf) | (refine eq_ts ?_; conv => whnf) | (refine ne_ts ?_; conv => whnf) | (refine ne_rD ?_; conv => whnf) | (refine eq_vD ?_; conv => whnf) | (refine ne_vD ?_; conv => whnf) | (refine ⟨isi_ok rfl, ?_⟩; conv => whnf) | (apply wMulS.mk; (first | exact mul_l (by decide) (by decide) | exact mul_r (by decide) (by decide) | exact mul_ok (by l_ints) (by l_ints) (by decide)); conv => whnf) | (refine ⟨⟨by decide, by decide, by decide⟩, ?_⟩; conv => whnf) | (refine ⟨⟨by decide, by decide, by omega⟩, ?_⟩; conv => whnf) | (refine ⟨small_sz (Nat.le_of_ble_eq_true rfl), ?_⟩; conv => whnf) | fail))
        refine low2 g80 HB1 (bd40 (by omega) (by omega) |>.mono (by decide)) ?_
        ((conv => whnf); repeat' (first | (refine wIf_tt ?_; conv => whnf) | (refine wIf_ff ?_; conv => whnf) | (refine wIf.mk (fun hif => (have hif := of_decide_eq_true hif; ?_)) (fun hif => (have hif := of_decide_eq_false hif; ?_)) <;> (conv => whnf)) | (refine wIf_not ?_) | (refine ⟨(by decide : (_ : Int) ≠ 0), fun w _ hw => ?_⟩; replace hw := hw (by decide); conv => whnf) | (refine ⟨(by decide : (_ : Int) ≠ 0), div_lit (by decide), fun w _ hw => ?_⟩; replace hw := hw (by decide); conv => whnf) | (refine eq_rD ?_; conv => whnf) | (refine eq_ts ?_; conv => whnf) | (refine ne_ts ?_; conv => whnf) | (refine ne_rD ?_; conv => whnf) | (refine eq_vD ?_; conv => whnf) | (refine ne_vD ?_; conv => whnf) | (refine ⟨isi_ok rfl, ?_⟩; conv => whnf) | (apply wMulS.mk; (first | exact mul_l (by decide) (by decide) | exact mul_r (by decide) (by decide) | exact mul_ok (by l_ints) (by l_ints) (by decide)); conv => whnf) | (refine ⟨⟨by decide, by decide, by decide⟩, ?_⟩; conv => whnf) | (refine ⟨⟨by decide, by decide, by omega⟩, ?_⟩; conv => whnf) | (refine ⟨small_sz (Nat.le_of_ble_eq_true rfl), ?_⟩; conv => whnf) | fail))
        refine hk _ ⟨by omega, ?_⟩
        rw [wPairs_succ, ← et]
        unfold shW
        rw [List.filter_append, List.filter_cons_of_pos (by simpa using hp), List.filter_nil, List.map_append, List.map_append]
        rfl
      · have hp : ¬ t > 0 := of_decide_eq_false hp
        refine hk _ ⟨by omega, ?_⟩
        rw [wPairs_succ, ← et]
        unfold shW
        rw [List.filter_append, List.filter_cons_of_neg (by simpa using hp), List.filter_nil, List.append_nil]
    rintro acc ⟨_, rfl⟩
    conv => whnf
    refine ⟨by simp; exact small_lt (by omega), ?_⟩
    conv => whnf
    have el : (ts.map PyData.int).length = w.1.length := by rw [List.length_map]; omega
    rw [el]
    exact done ts (1 + z1) (by omega) HT (by omega) (by omega) ht3 _ _ _
end DL
end
section
set_option maxRecDepth 100000
set_option maxHeartbeats 4000000
namespace DL
open PySem PySem.Spec PyProof.Rows L2
def wTR (G : Nat → DSp) (i f : Nat) (es : Es) (c : Nat) (k : En → Prop) (xd : Prop) (ρ : En) : Prop := wEs G es ρ (fun _ => False) fun rs => wArgs rs fun ds => G f ds (fun r => stR i r ρ k) (fun x => x = c ∧ xd)
def ckTR (T : Tb) (N : List Str) (sc : Scope) (i f : Nat) (es : Es) (c d : Nat) (s : Stmt) : Bool := match s with
  | .Try [.Assign [.Name y _] (.Call (.Name z _) (p :: ps) [] _) _] [.ExceptHandler (some (.Name x _)) none [.Raise (some (.Call (.Name u _) [.Constant (.str _) _ _] [] _)) none _] _] [] [] _ =>
    ckN N i y && isLoc (sc.names.lookup y) && ckG sc (T.fn f) z && ckEs T N true sc es (p :: ps) && T.xcs.contains c && T.xcs.contains d && ckG sc (T.xc c) x && ckG sc (T.xc d) u
  | _ => false
section
variable {P : Program} {w : World} {K : PySem.W.Frag} {mg : Str → Option Value} {base : Heap} {T : Tb} {G : Nat → DSp} {n : Nat} {W : WX} {X : Cx}
theorem tr_ok {i f c d : Nat} {es : Es} {s : Stmt} (g : GS T G n true W X) (hnn : T.nn = false) (hpa : ∀ hd : Option Value, PassesOwnAt (model X.prog X.w) (X.A.mark hd) X.A X.env X.xe)
    {m : Nat} {a : Addr} {fd : FuncData} {ps : List Str} (hk : m ≤ n) (F : FnOk X.prog X.w X.K X.mg X.base (L2N.CX X.prog X.w) m a fd ps (lift X.K T (G f))) (hm : X.mg (T.fn f) = some (.ref a)) (hkp : PySem.W.keepIn X.K (.ref a) = true) (hb : Binds X.K fd ps [])
    (h : ckTR T X.N X.env.scope i f es c d s = true) : PS X s (tS X.K T W (fun Z ρ => wTR G i f es c Z.nx (Z.ex d ρ) ρ)) := by
  unfold ckTR at h
  split at h
  · rename_i y py z zp p pp cpos apos x np u up q1 q2 q3 q4 rp hp tp
    obtain ⟨h, c8⟩ := ba h
    obtain ⟨h, c7⟩ := ba h
    obtain ⟨h, c6⟩ := ba h
    obtain ⟨h, c5⟩ := ba h
    obtain ⟨h, c4⟩ := ba h
    obtain ⟨h, c3⟩ := ba h
    obtain ⟨c1, c2⟩ := ba h
    have hc : c ∈ T.xcs := by simpa using c5
    have hd : d ∈ T.xcs := by simpa using c6
    obtain ⟨e1, g1, g2⟩ := ckG_ok c3
    subst e1
    obtain ⟨e2, g3, g4⟩ := ckG_ok c7
    subst e2
    obtain ⟨e3, g5, g6⟩ := ckG_ok c8
    subst e3
    have xt := g.xc c hc
    have xd := g.xc d hd
    obtain ⟨l1, l2⟩ := g.lc _ c2
    obtain ⟨px, pl⟩ := pos_call c4 X.env cpos
    have tk2 : L2.Takes X W := tkk_l2 hnn g.g.tk
    refine PS.imp (L2H.ps_try_onlyX (c := clsV X.K T c) (Wout := W) (ts := fun _ _ _ _ σ H => W (clsV X.K T d) none σ H)
      (tb := fun W' D σ H => ∃ (F0 H0 F : Hp) (ρ : En) (k : En → Prop) (xp : Prop), SR X.K F0 H0 F ρ σ H ∧ wTR G i f es c k xp ρ ∧
        (∀ ρ' σ' F' H', Same F F' → SR X.K F0 H0 F' ρ' σ' H' → k ρ' → D.nx σ' H') ∧ ∀ F' H', Same F F' → SR X.K F0 H0 F' ρ σ H' → xp → W' (clsV X.K T c) none σ H')
      g.st g.fr ⟨Gl_of g3, g4, .inl xt.at_⟩ hpa tk2 (fun W' pn xe tkn tkp pas => ?_) (fun a' oe cls dd pn hz hf tks hot => ?_)) fun D σ H q => ?_
    · have gx : GX T G n true (L2H.wPass X.K (clsV X.K T c) W) (X.tr pn xe) := ⟨g.g.room, g.g.calm, g.g.hu, fun f hf => FnT.mk (g.g.fns f hf).ex, g.g.gl, g.g.bi, g.g.bo, l2_tkk tkp, g.g.nd⟩
      refine PSs.imp (pss_one (ps_set (X := X.tr pn xe) g.g.nd (of_decide_eq_true c1) l1 (pe_callS (X := X.tr pn xe) (E := WE W') F ((g.g.room rfl).mono hk) (Gl_of g1) hm hkp hb (fun σ => L2N.passAt tkn σ) (sEs es (X.tr pn xe) _ gx _ c4) g2 (starNo px) pl) rfl l2)) fun D σ H q => ?_
      obtain ⟨F0, H0, F1, ρ, k, xp, sr, wt, nx, ex⟩ := q
      unfold wTR at wt
      have sx : SX X.K T (L2H.wPass X.K (clsV X.K T c) W) F0 H0 F1 ρ σ H (fun _ => False) := ⟨sr, fun _ _ _ z => z.elim⟩
      refine (runA (w := wEs G es) sx wt).mono fun vs H1 ⟨F2, rs, s1, f1, v1, k1⟩ => ?_
      obtain ⟨F3, ds, a1, a2, a3, a4, a5⟩ := args_at v1 (Same.refl _) f1 k1
      have s2 := step_frz s1 a1 a4
      refine ⟨F3, ds, _, _, a2, a3, a5, fun r v F' H' hp s3 f3 v3 => ?_, fun c' F' H' hp s3 f3 => ?_⟩
      · have s4 := s2.trans s3
        have sr4 := sr.step s4 f3
        obtain ⟨ρ', sr5, k2⟩ := sr4.setR (B := H) sr.ent.h (own_nn sr) (v3.base s2.h) i hp
        exact nx _ _ _ _ s4.f sr5 k2
      · obtain ⟨rfl, hp⟩ := hp
        have s4 := s2.trans s3
        exact ex F' H' s4.f (sr.step s4 f3) hp
    · exact PSs.imp (pss_one (L2H.ps_raiseH (X := L2H.suiteX X a' ((a', oe) :: pn)) hot tks (L2N.pmk_own (X := L2H.suiteX X a' ((a', oe) :: pn)) PySem.F.excBase_ValueError xd.exc xd.at_ xd.keep (raises_own xd.sub xd.typ) (Gl_of g5) g6))) fun D σ H q => q
    · obtain ⟨F0, H0, F1, ρ, Z, sr, wt, l⟩ := q
      refine ⟨F0, H0, F1, ρ, Z.nx, Z.ex d ρ, sr, wt, l.nx, fun F' H' s1 sr1 z => ⟨true, ?_, fun _ a1 _ => l.ex d ρ σ F' H' s1 sr1 z, fun z => by cases z⟩⟩
      rw [g.xm c hc c hc]
      simp [isa]
  · cases h
end
end DL
namespace DL
open PySem PySem.Spec PyProof.Rows L2
def ckT0 (T : Tb) (N : List Str) (sc : Scope) (i f : Nat) (es : Es) (c d : Nat) (rest : Ss) (body : List Stmt) : Bool := match body with
  | s :: ss => ckTR T N sc i f es c d s && ckSs T N true sc rest ss
  | [] => false
section
variable {P : Program} {w : World} {K : PySem.W.Frag} {mg : Str → Option Value} {base : Heap} {T : Tb} {G : Nat → DSp}
theorem def_okT {k f0 i f c d : Nat} {es : Es} {a : Addr} {fd : FuncData} {qual : Str} {params : Arguments} {body : List Stmt} {scope : Scope} {N ps : List Str} {cal : List Nat} {rest : Ss} (wd : Wd P w K mg T)
    (F : FunD K (T.fn f0) qual params body scope [] [] a fd) (hm : mg (T.fn f0) = some (.ref a)) (S : FnScope N ps scope) (hb : Binds K fd ps [])
    (hf : FnN P w K mg base T G k f) (hc : ∀ g ∈ cal, FnP P w K mg base T G k g) (ck : ckT0 { T with fns := cal, nn := false } N scope i f es c d rest body = true)
    (hw : ∀ ds Q X, G f0 ds Q X → ds.length = ps.length ∧ wTR G i f es c (fun ρ => wSs G rest (endOf Q X) ρ) (X d) (dstart N ds)) : FnP P w K mg base T G (k + 1) f0 := by
  refine ⟨a, fd, ps, F.ok S (fun vs H Q E h => ?_) (fun cdv A outer s H vs Q E hr h => ?_), hm, F.kp, hb⟩
  · obtain ⟨F0, ds, P1, PE, fh, hd, hg, _⟩ := h
    rw [dpa_len hd]
    exact (hw ds P1 PE hg).1
  · obtain ⟨F0, ds, P1, PE, fh, hd, hg, post, pex⟩ := h
    obtain ⟨X, eX⟩ : ∃ X, X = cxOf (CXk false P w) P w K mg base N qual scope a cdv A outer s H E := ⟨_, rfl⟩
    have tk : Tkk false (cxOf (CXk false P w) P w K mg base N qual scope a cdv A outer s H E) (fun cls d _ H => E cls d H) := L2.takes_of rfl rfl rfl rfl
    have gs : GS { T with fns := cal, nn := false } G k true (fun cls d _ H => E cls d H) (cxOf (CXk false P w) P w K mg base N qual scope a cdv A outer s H E) := by
      refine ⟨⟨fun _ => hr, fun _ => rfl, ?_, fun g hg => ?_, wd.gl, wd.bi, wd.bo, tk, S.nd⟩, passes_of rfl, fun x hx => ?_, rfl, rfl, S.kind, fun c hc => ?_, wd.xm, fun c hc => let z := wd.xi c hc; ⟨z.ex, z.ve, z.xv⟩⟩
      · have := hr.un
        show _ + 200 < _
        have e : (cxOf (CXk false P w) P w K mg base N qual scope a cdv A outer s H E).A = A.deeper (envOfC qual scope s.heap.objs.size a cdv) := rfl
        rw [e]
        omega
      · obtain ⟨b, fd2, ps2, h1, h2, h3, h4⟩ := hc g hg
        exact ⟨k, b, fd2, ps2, Nat.le_refl _, h1, h2, h3, h4⟩
      · cases q : scope.names.lookup x with
        | none =>
          have hx : isLoc (scope.names.lookup x) = true := hx
          rw [q] at hx
          cases hx
        | some kd =>
          have hx : isLoc (scope.names.lookup x) = true := hx
          rw [q] at hx
          cases kd with
          | «local» => exact ⟨.inl q, .inl rfl⟩
          | cell => exact ⟨.inr q, .inl rfl⟩
          | _ => cases hx
      · obtain ⟨h1, h2, h3, h4⟩ := wd.xe c hc
        exact ⟨wd.xa c hc, h1, h2, h3, h4⟩
    have hpa : ∀ hd : Option Value, PassesOwnAt (model P w) ((cxOf (CXk false P w) P w K mg base N qual scope a cdv A outer s H E).A.mark hd) (cxOf (CXk false P w) P w K mg base N qual scope a cdv A outer s H E).A (cxOf (CXk false P w) P w K mg base N qual scope a cdv A outer s H E).env (cxOf (CXk false P w) P w K mg base N qual scope a cdv A outer s H E).xe := fun hd => L2H.passesAt_of (X := cxOf (CXk false P w) P w K mg base N qual scope a cdv A outer s H E) rfl hd
    obtain ⟨b, fd2, ps2, h1, h2, h3, h4⟩ := hf
    unfold ckT0 at ck
    split at ck
    · rename_i st ss
      obtain ⟨ck1, ck2⟩ := ba ck
      have pt := tr_ok (s := st) gs rfl hpa (Nat.le_refl k) h1 h2 h3 h4 ck1
      have pr := sSs rest true _ _ gs ss ck2
      refine ⟨_, PSs.imp (t' := tS K { T with fns := cal, nn := false } (fun cls d _ H => E cls d H) (fun Z ρ => wTR G i f es c (fun ρ' => wSs G rest Z ρ') (Z.ex d ρ) ρ)) (pss_cons pt pr) (fun D σ H q => ?_), F0, H, F0, dstart N ds, endOf P1 PE, sr_start fh hd, (hw ds P1 PE hg).2, ?_⟩
      · obtain ⟨F0, H0, F, ρ, Z, sr, w, l⟩ := q
        exact ⟨F0, H0, F, ρ, { Z with nx := fun ρ' => wSs G rest Z ρ' }, sr, w, ⟨fun ρ' σ' F' H' a b c => ⟨F0, H0, F', ρ', Z, b, c, l.mono a⟩, l.bk, l.rt, l.ex⟩⟩
      refine ⟨fun ρ' σ' F' H' s1 sr h => ?_, fun _ _ _ _ _ _ h => h.elim, fun r v F' H' s1 st f1 rv h => post r v F' H' h st f1 rv, fun c ρ' σ' F' H' s1 sr h => pex c F' H' h sr.ent sr.fh⟩
      exact post (.d .none) .non F' H' h sr.ent sr.fh (show Dq _ _ _ _ from Dq.non)
    · cases ck
end
end DL
namespace DL
def FnWT (G : Nat → DSp) (n np i f : Nat) (es : Es) (c d : Nat) (m : Ss) (sp : DSp) : Prop := ∀ ds Q X, sp ds Q X → ds.length = np ∧ wTR G i f es c (fun ρ => wSs G m (endOf Q X) ρ) (X d) (dst n ds)
end DL
namespace DL
open PySem PySem.Spec PyProof.Rows L2
theorem FnPk.mono {b : Bool} {P : Program} {w : World} {K : PySem.W.Frag} {mg : Str → Option Value} {base : Heap} {T : Tb} {G : Nat → DSp} {j k f : Nat} (h : FnPk b P w K mg base T G j f) (l : j ≤ k) : FnPk b P w K mg base T G k f := by
  obtain ⟨a, fd, ps, h1, h2⟩ := h
  exact ⟨a, fd, ps, h1.mono l, h2⟩
end DL
end
section
namespace DL
def m_watch_end : Ss := (.cons (.ifs (.cmp .NotEq (.call 55 (.cons (.v 1) .nil)) (.gl 3)) (.cons (.rais 4) .nil) .nil) (.cons (.ret (.call 23 (.cons (.v 2) (.cons (.tup (.cons (.ix (.ix (.v 0) (.int 1)) (.int 0)) (.cons (.ix (.ix (.v 0) (.int 1)) (.int 1)) (.cons (.int 1) .nil)))) .nil)))) .nil))
def es_watch_end : Es := (.cons (.ix (.v 0) (.int 0)) (.cons (.v 1) .nil))
end DL
end
section
namespace DL
def m_course_end : Ss := (.cons (.ifs (.cmp .NotEq (.bi .len (.cons (.v 1) .nil)) (.bi .len (.cons (.v 0) .nil))) (.cons (.rais 4) .nil) .nil) (.cons (.set 2 (.gl 2)) (.cons (.for_ (.tp [3, 4]) (.zip (.v 0) (.v 1)) (.cons (.set 2 (.call 23 (.cons (.v 2) (.cons (.call 206 (.cons (.v 3) (.cons (.v 4) .nil))) .nil)))) .nil)) (.cons (.ret (.v 2)) .nil))))
end DL
end
section
namespace DL
def m_law_spoilt_shares : Ss := (.cons (.set 3 (.ix (.ix (.v 0) (.int 0)) (.int 0))) (.cons (.set 4 (.ix (.ix (.v 0) (.int 0)) (.int 1))) (.cons (.set 5 (.sl (.v 0) (.cons (.int 1) .nil) .nil)) (.cons (.frz 5) (.cons (.ifs (.cmp .Eq (.v 1) (.int 2)) (.cons (.ret (.tup .nil)) .nil) .nil) (.cons (.ifs (.cmp .Eq (.v 1) (.int 3)) (.cons (.ret (.bin .Add (.sl (.v 0) .nil (.cons (.neg (.int 1)) .nil)) (.tup (.cons (.tup (.cons (.v 2) (.cons (.ix (.ix (.v 0) (.neg (.int 1))) (.int 1)) .nil))) .nil)))) .nil) .nil) (.cons (.ifs (.cmp .Eq (.v 1) (.int 4)) (.cons (.ret (.bin .Add (.tup (.cons (.tup (.cons (.neg (.int 1)) (.cons (.v 4) .nil))) .nil)) (.v 5))) .nil) .nil) (.cons (.ifs (.cmp .Eq (.v 1) (.int 5)) (.cons (.set 6 (.tup (.cons (.ix (.v 4) (.int 0)) (.cons (.bin .Mult (.int 2) (.ix (.v 4) (.int 1))) .nil)))) (.cons (.ret (.bin .Add (.tup (.cons (.tup (.cons (.v 3) (.cons (.v 6) .nil))) (.cons (.tup (.cons (.v 3) (.cons (.v 6) .nil))) .nil))) (.v 5))) .nil)) .nil) (.cons (.ifs (.cmp .Eq (.v 1) (.int 6)) (.cons (.ret (.bin .Add (.trvd (.v 0)) (.tup (.cons (.tup (.cons (.int 0) (.cons (.tup (.cons (.int 0) (.cons (.int 1) .nil))) .nil))) .nil)))) .nil) .nil) (.cons (.ifs (.cmp .Eq (.v 1) (.int 7)) (.cons (.ret (.bin .Add (.tup (.cons (.tup (.cons (.v 3) (.cons (.tup (.cons (.int 0) (.cons (.int 1) .nil))) .nil))) .nil)) (.v 5))) .nil) .nil) (.cons (.ifs (.cmp .Eq (.v 1) (.int 8)) (.cons (.ret (.bin .Add (.tup (.cons (.tup (.cons (.v 3) (.cons (.tup (.cons (.bin .Mult (.int 2) (.ix (.v 4) (.int 0))) (.cons (.bin .Mult (.int 2) (.ix (.v 4) (.int 1))) .nil))) .nil))) .nil)) (.v 5))) .nil) .nil) (.cons (.ifs (.cmp .Eq (.v 1) (.int 9)) (.cons (.ret (.bin .Add (.tup (.cons (.tup (.cons (.v 3) (.cons (.tup (.cons (.ix (.v 4) (.int 0)) (.cons (.int 0) .nil))) .nil))) .nil)) (.v 5))) .nil) .nil) (.cons (.ifs (.cmp .Eq (.v 1) (.int 10)) (.cons (.ret (.bin .Add (.tup (.cons (.tup (.cons (.v 3) (.cons (.tup (.cons (.neg (.ix (.v 4) (.int 0))) (.cons (.ix (.v 4) (.int 1)) .nil))) .nil))) .nil)) (.v 5))) .nil) .nil) (.cons (.ret (.bin .Add (.tup (.cons (.tup (.cons (.v 3) (.cons (.tup (.cons (.bin .Add (.ix (.v 4) (.int 0)) (.ix (.v 4) (.int 1))) (.cons (.ix (.v 4) (.int 1)) .nil))) .nil))) .nil)) (.v 5))) .nil))))))))))))))
end DL
end
section
set_option maxRecDepth 100000
set_option maxHeartbeats 4000000
set_option exponentiation.threshold 100000
namespace DL
open PySem L2
local macro_rules | `(tactic| l_ints) => `(tactic| first | (assumption) | (apply Bd.neg; l_ints) | (apply Bd.mul <;> l_ints) | (exact bd40 (by omega) (by omega)) | (apply Bd.add <;> l_ints) | (apply Bd.sub <;> l_ints) | (exact bd130 (by omega) (by omega)) | (exact bd210 (by omega) (by omega)) | (exact bd_self _) | fail)
def sumOk (fl : Bool) (q : Rat) : Prop := 0 < q ∧ q ≤ 1 ∧ (q = 1 ∨ fl = true)
def rowBad (k n : Nat) (fl : Bool) (rs : List Raw) : Prop := goodB n (-1) rs = false ∨ ∃ ss, rs = ss.map raw ∧ Good k n ss ∧ ¬ sumOk fl (qtot one1 ss)
theorem is_one {q : Rat} : (q.num, (q.den : Int)) = (1, 1) ↔ q = 1 := by
  constructor
  · intro h
    rw [Prod.mk.injEq] at h
    exact Rat.ext h.1 (by have := h.2; show q.den = 1; omega)
  · intro h
    subst h
    rfl
theorem pd_vec (v : Vec) : PD (v.1 : Rat) (v.2 : Rat) = .tuple [.int v.1, .int v.2, .int 1] := by
  unfold PD
  rw [plc_int]
  rfl
theorem pb_vec {k : Nat} {v : Vec} (h : VB k v) (k1 : 1 ≤ k) : PB k (v.1 : Rat) (v.2 : Rat) := by
  unfold PB
  rw [plc_int]
  exact ⟨h.1, h.2, Bd.mono (m := 1) (show Bd 1 (1 : Int) by decide) k1⟩
theorem qtot_pb' {a k L : Nat} {vs : List Vec} {ss : List Sh} (hv : ∀ v ∈ vs, VB a v) (h : Good k vs.length ss) (hL : k * ss.length ≤ L) : PB (a + k + L + 8) (qtot (eF vs) ss) (qtot (nF vs) ss) :=
  qtot_pb _ _ a (fun i => (vAt_bd hv i).1) (fun i => (vAt_bd hv i).2) h.len hL fun s hs => (h.ok s hs).rb
def sp_watch_end : DSp := fun ds Q X => ∃ (w : Wt) (rs : List Raw) (k L : Nat), ds = [wtD w, rowsD rs] ∧ WtOk 140 12 w ∧ rs.length ≤ 120 ∧ (∀ r ∈ rs, Bd k r.2.1 ∧ Bd k r.2.2) ∧ k * rs.length ≤ L ∧ L + 4 * k ≤ 4000 ∧
  (∀ ss, rs = ss.map raw → Good k w.1.length ss → qtot one1 ss = 1 → Q (.d (PD (legE w ss) (legN w ss)))) ∧ (rowBad k w.1.length false rs → X 4)
theorem p_watch_end {G : Nat → DSp} (g54 : G 54 = sp_shares_end) (g55 : G 55 = sp_shares_sum) (g23 : G 23 = sp_place_added) : FnWT G 3 2 2 54 es_watch_end 3 4 m_watch_end sp_watch_end := by
  intro ds Q X ⟨w, rs, k, L, e, ow, hl, hb, hL, hs, q, x⟩
  subst e
  refine ⟨rfl, ?_⟩
  conv => whnf
  refine gC g54 ⟨w.1, rs, 140, k, L, rfl, ow.vb, hl, hb, hL, ⟨by decide, by omega⟩, fun ss es hg => ?_, fun hx => ⟨rfl, x (.inl hx)⟩⟩
  subst es
  rw [List.length_map] at hL
  have q1 := q ss rfl hg
  rw [rowsD_raw]
  conv => whnf
  refine gC g55 ⟨w.1.length, k, L, ss, rfl, hg, hL, ⟨by decide, by omega⟩, ?_⟩
  conv => whnf
  refine ne_vD ?_
  conv => whnf
  refine wIf_not ?_
  refine wIf.mk (fun hc => ?_) (fun hc => ?_)
  rotate_left
  · have hc : ¬ qtot one1 ss = 1 := fun z => of_decide_eq_false hc (is_one.mpr z)
    exact x (.inr ⟨ss, rfl, hg, fun z => z.2.2.elim hc fun z => by cases z⟩)
  · have hc : qtot one1 ss = 1 := is_one.mp (of_decide_eq_true hc)
    conv => whnf
    refine ⟨small_sz (by simp), ?_⟩
    conv => whnf
    rw [← pd_vec w.2]
    refine gC g23 ⟨_, _, _, _, 140 + k + L + 8, 140, rfl, qtot_pb' ow.vb hg hL, pb_vec ow.st (by decide), by omega, ?_⟩
    have q2 := q1 hc
    unfold legE legN at q2
    rw [hc, Rat.mul_one, Rat.mul_one] at q2
    exact q2
theorem bad_row {n : Nat} : ∀ {rs : List Raw} {l : Int} {r : Raw}, r ∈ rs → (r.1 ≤ l ∨ (n : Int) ≤ r.1 ∨ frB r.2.1 r.2.2 = false) → goodB n l rs = false
  | [], _, _, h, _ => by cases h
  | s :: rs, l, r, h, hb => by
    unfold goodB
    rcases List.mem_cons.mp h with h | h
    · subst h
      rcases hb with hb | hb | hb
      · rw [decide_eq_false (by omega)]; rfl
      · rw [decide_eq_false (by omega)]; rfl
      · rw [hb]; simp
    · by_cases c : l < s.1 ∧ s.1 < n
      · rw [bad_row (l := s.1) h (by rcases hb with hb | hb; · exact .inl (by omega)
                                     · exact .inr hb)]
        simp
      · rw [decide_eq_false c]; rfl
theorem bad_twice {n : Nat} {l : Int} {r s : Raw} {rs : List Raw} (h : s.1 ≤ r.1) : goodB n l (r :: s :: rs) = false := by
  rw [goodB, bad_row (r := s) (l := r.1) List.mem_cons_self (.inl h)]
  simp
theorem plus_one (q : Rat) (h : 1 ≤ q.num) : (q + 1).num = q.num + q.den ∧ ((q + 1).den : Int) = q.den ∧ True := by
  have d0 := q.den_pos
  have e : q + 1 = Rat.divInt (q.num + q.den) q.den := by
    have e1 : Rat.divInt (q.num + q.den) q.den = Rat.divInt q.num q.den + Rat.divInt q.den q.den := divInt_add_same _ _ _ (by omega)
    rw [e1, Rat.num_divInt_den, Rat.divInt_self' (by omega)]
  have f : frB (q.num + q.den) q.den = true := by
    refine decide_eq_true ⟨by omega, by omega, ?_⟩
    have r := q.reduced
    rw [Int.gcd_add_self_left]
    simpa [Int.gcd, Nat.Coprime] using r
  obtain ⟨f1, f2⟩ := fr_low f
  rw [e]
  exact ⟨f1, f2, trivial⟩
def sp_law_spoilt_shares : DSp := fun ds Q X => ∃ (ss : List Sh) (way : Int) (n k : Nat), ds = [sharesD ss, .int way, .int n] ∧ Good k n ss ∧ ss ≠ [] ∧ ss.length ≤ 100 ∧ 0 < qtot one1 ss ∧ 2 ≤ way ∧ way ≤ 11 ∧ k ≤ 8000 ∧
  ∀ rs : List Raw, rs.length ≤ ss.length + 1 → (∀ r ∈ rs, Bd (k + 2) r.2.1 ∧ Bd (k + 2) r.2.2) → (∀ fl, rowBad (k + 2) n fl rs) → Q (.d (rowsD rs))
theorem p_law_spoilt_shares {G : Nat → DSp} : FnW G 7 3 m_law_spoilt_shares sp_law_spoilt_shares := by
  intro ds Q X ⟨ss, way, n, k, e, hg, ne, hl, pos, w0, w1, hk, q⟩
  subst e
  refine ⟨rfl, ?_⟩
  obtain ⟨s, ts, rfl⟩ : ∃ s ts, ss = s :: ts := by
    cases ss with
    | nil => exact absurd rfl ne
    | cons s ts => exact ⟨s, ts, rfl⟩
  have os := hg.ok s List.mem_cons_self
  have a0 : atI ((s :: ts).map shD) 0 = some (shD s) := by
    rw [atI_at (by decide) (by simp)]
    rfl
  have ecut : cutD ((s :: ts).map shD) (some 1) none = ts.map shD := cut_from ((s :: ts).map shD) 1
  have rb : ∀ t ∈ s :: ts, Bd k t.2.num ∧ Bd k (t.2.den : Int) := fun t ht => (hg.ok t ht).rb
  have shr : ∀ L : List Sh, L.map shD = (L.map raw).map rwD := fun L => by rw [List.map_map]; rfl
  have fin : ∀ rs : List Raw, rs.length ≤ (s :: ts).length + 1 → (∀ r ∈ rs, r ∈ (s :: ts).map raw ∨ (Bd (k + 2) r.2.1 ∧ Bd (k + 2) r.2.2)) → (∀ fl, rowBad (k + 2) n fl rs) → Q (.d (.tuple (rs.map rwD))) := fun rs h1 h2 h3 => q rs h1 (fun r hr => by
    rcases h2 r hr with h | h
    · obtain ⟨t, ht, rfl⟩ := List.mem_map.mp h
      exact ⟨(rb t ht).1.mono (by omega), (rb t ht).2.mono (by omega)⟩
    · exact h) h3
  have tl : ∀ r ∈ ts.map raw, r ∈ (s :: ts).map raw := fun r hr => List.mem_cons_of_mem _ hr
  have b1 := rb s List.mem_cons_self
  have sd : 1 ≤ (s.2.den : Int) := by have := s.2.den_pos; omega
  have sn : 1 ≤ s.2.num := by have := os.pos; omega
  have one : Bd (k + 2) (1 : Int) := Bd.mono (m := 1) (by decide) (by omega)
  have zero : Bd (k + 2) (0 : Int) := Bd.mono (m := 1) (by decide) (by omega)
  have two : ∀ x : Int, Bd k x → Bd (k + 2) (2 * x) := fun x h => (Bd.mul (m := 2) (show Bd 2 (2 : Int) by decide) h).mono (by omega)
  have neww : ∀ r : Raw, (∀ fl, rowBad (k + 2) n fl (r :: ts.map raw)) → Bd (k + 2) r.2.1 → Bd (k + 2) r.2.2 → Q (.d (.tuple ([.tuple [.int r.1, .tuple [.int r.2.1, .int r.2.2]]] ++ ts.map shD))) := fun r h h1 h2 => by
    rw [shr ts]
    refine fin (r :: ts.map raw) (by simp) (fun u hu => ?_) h
    rcases List.mem_cons.mp hu with h | h
    · rw [h]; exact .inr ⟨h1, h2⟩
    · exact .inl (tl u h)
  have bad1 : ∀ (r : Raw), (r.1 ≤ -1 ∨ (n : Int) ≤ r.1 ∨ frB r.2.1 r.2.2 = false) → ∀ fl, rowBad (k + 2) n fl (r :: ts.map raw) := fun r h fl => .inl (bad_row List.mem_cons_self h)
  have szt : ∀ m : Nat, m ≤ 4 → ([] : List D).length + m + (ts.map shD).length ≤ sizeLine := fun m hm => small_sz (by simp at hl ⊢; omega)
  conv => whnf
  rw [a0]
  conv => whnf
  rw [a0]
  conv => whnf
  rw [ecut]
  conv => whnf
  have ways : way = 2 ∨ way = 3 ∨ way = 4 ∨ way = 5 ∨ way = 6 ∨ way = 7 ∨ way = 8 ∨ way = 9 ∨ way = 10 ∨ way = 11 := by omega
  rcases ways with h | h | h | h | h | h | h | h | h | h <;> subst h
  · ((conv => whnf); repeat (first | (refine wIf_tt ?_; conv => whnf) | (refine wIf_ff ?_; conv => whnf) | (refine ⟨(by decide : (_ : Int) ≠ 0), fun w _ hw => ?_⟩; replace hw := hw (by decide); conv => whnf) | (refine ⟨(by decide : (_ : Int) ≠ 0), div_lit (by decide), fun w _ hw => ?_⟩; replace hw := hw (by decide); conv => whnf) | (refine eq_rD ?_; conv => whnf) | (refine eq_ts ?_; conv => whnf) | (refine ne_ts ?_; conv => whnf) | (refine ne_rD ?_; conv => whnf) | (refine eq_vD ?_; conv => whnf) | (refine ne_vD ?_; conv => whnf) | (refine ⟨isi_ok rfl, ?_⟩; conv => whnf) | (apply wMulS.mk; (first | exact mul_l (by decide) (by decide) | exact mul_r (by decide) (by decide) | exact mul_ok (by l_ints) (by l_ints) (by decide)); conv => whnf) | (refine ⟨⟨by decide, by decide, by decide⟩, ?_⟩; conv => whnf) | (refine ⟨⟨by decide, by decide, by omega⟩, ?_⟩; conv => whnf) | (refine ⟨small_sz (Nat.le_of_ble_eq_true rfl), ?_⟩; conv => whnf) | fail))
    exact fin [] (by simp) (by simp) fun fl => .inr ⟨[], rfl, ⟨by simp, by simp, .nil⟩, fun z => absurd z.1 (by rw [qtot_nil]; exact Rat.lt_irrefl)⟩
  · obtain ⟨t, ht, e1⟩ := atI_maps (f := shD) (xs := s :: ts) (i := -1) (by simp; omega) (by simp; omega)
    ((conv => whnf); repeat (first | (refine wIf_tt ?_; conv => whnf) | (refine wIf_ff ?_; conv => whnf) | (refine ⟨(by decide : (_ : Int) ≠ 0), fun w _ hw => ?_⟩; replace hw := hw (by decide); conv => whnf) | (refine ⟨(by decide : (_ : Int) ≠ 0), div_lit (by decide), fun w _ hw => ?_⟩; replace hw := hw (by decide); conv => whnf) | (refine eq_rD ?_; conv => whnf) | (refine eq_ts ?_; conv => whnf) | (refine ne_ts ?_; conv => whnf) | (refine ne_rD ?_; conv => whnf) | (refine eq_vD ?_; conv => whnf) | (refine ne_vD ?_; conv => whnf) | (refine ⟨isi_ok rfl, ?_⟩; conv => whnf) | (apply wMulS.mk; (first | exact mul_l (by decide) (by decide) | exact mul_r (by decide) (by decide) | exact mul_ok (by l_ints) (by l_ints) (by decide)); conv => whnf) | (refine ⟨⟨by decide, by decide, by decide⟩, ?_⟩; conv => whnf) | (refine ⟨⟨by decide, by decide, by omega⟩, ?_⟩; conv => whnf) | (refine ⟨small_sz (Nat.le_of_ble_eq_true rfl), ?_⟩; conv => whnf) | fail))
    rw [e1]
    conv => whnf
    refine ⟨small_sz (by simp), ?_⟩
    conv => whnf
    refine ⟨small_sz (by simp), ?_⟩
    conv => whnf
    rw [cut_init, ← List.map_dropLast, shr]
    refine ⟨small_sz (by simp at hl ⊢; omega), ?_⟩
    have := fin ((s :: ts).dropLast.map raw ++ [((n : Int), t.2.num, (t.2.den : Int))]) (by simp) (fun u hu => ?_) fun fl => .inl (bad_row (r := ((n : Int), t.2.num, (t.2.den : Int))) (by simp) (.inr (.inl (Int.le_refl _))))
    · rw [List.map_append] at this
      exact this
    · rcases List.mem_append.mp hu with h | h
      · obtain ⟨v, hv, rfl⟩ := List.mem_map.mp h
        exact .inl (List.mem_map.mpr ⟨v, List.dropLast_subset _ hv, rfl⟩)
      · rw [List.mem_singleton.mp h]
        exact .inr ⟨(rb t ht).1.mono (by omega), (rb t ht).2.mono (by omega)⟩
  · ((conv => whnf); repeat (first | (refine wIf_tt ?_; conv => whnf) | (refine wIf_ff ?_; conv => whnf) | (refine ⟨(by decide : (_ : Int) ≠ 0), fun w _ hw => ?_⟩; replace hw := hw (by decide); conv => whnf) | (refine ⟨(by decide : (_ : Int) ≠ 0), div_lit (by decide), fun w _ hw => ?_⟩; replace hw := hw (by decide); conv => whnf) | (refine eq_rD ?_; conv => whnf) | (refine eq_ts ?_; conv => whnf) | (refine ne_ts ?_; conv => whnf) | (refine ne_rD ?_; conv => whnf) | (refine eq_vD ?_; conv => whnf) | (refine ne_vD ?_; conv => whnf) | (refine ⟨isi_ok rfl, ?_⟩; conv => whnf) | (apply wMulS.mk; (first | exact mul_l (by decide) (by decide) | exact mul_r (by decide) (by decide) | exact mul_ok (by l_ints) (by l_ints) (by decide)); conv => whnf) | (refine ⟨⟨by decide, by decide, by decide⟩, ?_⟩; conv => whnf) | (refine ⟨⟨by decide, by decide, by omega⟩, ?_⟩; conv => whnf) | (refine ⟨small_sz (Nat.le_of_ble_eq_true rfl), ?_⟩; conv => whnf) | fail))
    refine ⟨small_sz (by simp at hl ⊢; omega), ?_⟩
    exact neww (-1, s.2.num, s.2.den) (bad1 _ (.inl (show (-1 : Int) ≤ -1 by decide))) (b1.1.mono (by omega)) (b1.2.mono (by omega))
  · ((conv => whnf); repeat (first | (refine wIf_tt ?_; conv => whnf) | (refine wIf_ff ?_; conv => whnf) | (refine ⟨(by decide : (_ : Int) ≠ 0), fun w _ hw => ?_⟩; replace hw := hw (by decide); conv => whnf) | (refine ⟨(by decide : (_ : Int) ≠ 0), div_lit (by decide), fun w _ hw => ?_⟩; replace hw := hw (by decide); conv => whnf) | (refine eq_rD ?_; conv => whnf) | (refine eq_ts ?_; conv => whnf) | (refine ne_ts ?_; conv => whnf) | (refine ne_rD ?_; conv => whnf) | (refine eq_vD ?_; conv => whnf) | (refine ne_vD ?_; conv => whnf) | (refine ⟨isi_ok rfl, ?_⟩; conv => whnf) | (apply wMulS.mk; (first | exact mul_l (by decide) (by decide) | exact mul_r (by decide) (by decide) | exact mul_ok (by l_ints) (by l_ints) (by decide)); conv => whnf) | (refine ⟨⟨by decide, by decide, by decide⟩, ?_⟩; conv => whnf) | (refine ⟨⟨by decide, by decide, by omega⟩, ?_⟩; conv => whnf) | (refine ⟨small_sz (Nat.le_of_ble_eq_true rfl), ?_⟩; conv => whnf) | fail))
    refine ⟨small_sz (by simp at hl ⊢; omega), ?_⟩
    rw [shr]
    refine fin (((s.1 : Int), s.2.num, 2 * (s.2.den : Int)) :: ((s.1 : Int), s.2.num, 2 * (s.2.den : Int)) :: ts.map raw) (by simp) (fun u hu => ?_) fun fl => .inl (bad_twice (Int.le_refl _))
    rcases List.mem_cons.mp hu with h | h
    · rw [h]; exact .inr ⟨b1.1.mono (by omega), two _ b1.2⟩
    rcases List.mem_cons.mp h with h | h
    · rw [h]; exact .inr ⟨b1.1.mono (by omega), two _ b1.2⟩
    · exact .inl (tl u h)
  · ((conv => whnf); repeat (first | (refine wIf_tt ?_; conv => whnf) | (refine wIf_ff ?_; conv => whnf) | (refine ⟨(by decide : (_ : Int) ≠ 0), fun w _ hw => ?_⟩; replace hw := hw (by decide); conv => whnf) | (refine ⟨(by decide : (_ : Int) ≠ 0), div_lit (by decide), fun w _ hw => ?_⟩; replace hw := hw (by decide); conv => whnf) | (refine eq_rD ?_; conv => whnf) | (refine eq_ts ?_; conv => whnf) | (refine ne_ts ?_; conv => whnf) | (refine ne_rD ?_; conv => whnf) | (refine eq_vD ?_; conv => whnf) | (refine ne_vD ?_; conv => whnf) | (refine ⟨isi_ok rfl, ?_⟩; conv => whnf) | (apply wMulS.mk; (first | exact mul_l (by decide) (by decide) | exact mul_r (by decide) (by decide) | exact mul_ok (by l_ints) (by l_ints) (by decide)); conv => whnf) | (refine ⟨⟨by decide, by decide, by decide⟩, ?_⟩; conv => whnf) | (refine ⟨⟨by decide, by decide, by omega⟩, ?_⟩; conv => whnf) | (refine ⟨small_sz (Nat.le_of_ble_eq_true rfl), ?_⟩; conv => whnf) | fail))
    refine ⟨small_sz (by simp at hl ⊢; omega), ?_⟩
    rw [shr, ← List.map_reverse]
    have := fin (((s :: ts).map raw).reverse ++ [((0 : Int), 0, 1)]) (by simp) (fun u hu => ?_) fun fl => .inl (bad_row (r := ((0 : Int), 0, 1)) (by simp) (.inr (.inr (by decide))))
    · rw [List.map_append] at this
      exact this
    · rcases List.mem_append.mp hu with h | h
      · exact .inl (List.mem_reverse.mp h)
      · rw [List.mem_singleton.mp h]; exact .inr ⟨zero, one⟩
  · ((conv => whnf); repeat (first | (refine wIf_tt ?_; conv => whnf) | (refine wIf_ff ?_; conv => whnf) | (refine ⟨(by decide : (_ : Int) ≠ 0), fun w _ hw => ?_⟩; replace hw := hw (by decide); conv => whnf) | (refine ⟨(by decide : (_ : Int) ≠ 0), div_lit (by decide), fun w _ hw => ?_⟩; replace hw := hw (by decide); conv => whnf) | (refine eq_rD ?_; conv => whnf) | (refine eq_ts ?_; conv => whnf) | (refine ne_ts ?_; conv => whnf) | (refine ne_rD ?_; conv => whnf) | (refine eq_vD ?_; conv => whnf) | (refine ne_vD ?_; conv => whnf) | (refine ⟨isi_ok rfl, ?_⟩; conv => whnf) | (apply wMulS.mk; (first | exact mul_l (by decide) (by decide) | exact mul_r (by decide) (by decide) | exact mul_ok (by l_ints) (by l_ints) (by decide)); conv => whnf) | (refine ⟨⟨by decide, by decide, by decide⟩, ?_⟩; conv => whnf) | (refine ⟨⟨by decide, by decide, by omega⟩, ?_⟩; conv => whnf) | (refine ⟨small_sz (Nat.le_of_ble_eq_true rfl), ?_⟩; conv => whnf) | fail))
    refine ⟨small_sz (by simp at hl ⊢; omega), ?_⟩
    exact neww ((s.1 : Int), 0, 1) (bad1 _ (.inr (.inr (by show frB 0 1 = false; decide)))) zero one
  · ((conv => whnf); repeat (first | (refine wIf_tt ?_; conv => whnf) | (refine wIf_ff ?_; conv => whnf) | (refine ⟨(by decide : (_ : Int) ≠ 0), fun w _ hw => ?_⟩; replace hw := hw (by decide); conv => whnf) | (refine ⟨(by decide : (_ : Int) ≠ 0), div_lit (by decide), fun w _ hw => ?_⟩; replace hw := hw (by decide); conv => whnf) | (refine eq_rD ?_; conv => whnf) | (refine eq_ts ?_; conv => whnf) | (refine ne_ts ?_; conv => whnf) | (refine ne_rD ?_; conv => whnf) | (refine eq_vD ?_; conv => whnf) | (refine ne_vD ?_; conv => whnf) | (refine ⟨isi_ok rfl, ?_⟩; conv => whnf) | (apply wMulS.mk; (first | exact mul_l (by decide) (by decide) | exact mul_r (by decide) (by decide) | exact mul_ok (by l_ints) (by l_ints) (by decide)); conv => whnf) | (refine ⟨⟨by decide, by decide, by decide⟩, ?_⟩; conv => whnf) | (refine ⟨⟨by decide, by decide, by omega⟩, ?_⟩; conv => whnf) | (refine ⟨small_sz (Nat.le_of_ble_eq_true rfl), ?_⟩; conv => whnf) | fail))
    refine ⟨small_sz (by simp at hl ⊢; omega), ?_⟩
    refine neww ((s.1 : Int), 2 * s.2.num, 2 * (s.2.den : Int)) (bad1 _ (.inr (.inr ?_))) (two _ b1.1) (two _ b1.2)
    refine decide_eq_false fun z => ?_
    have := z.2.2
    rw [Int.gcd_mul_left] at this
    simp at this
    omega
  · ((conv => whnf); repeat (first | (refine wIf_tt ?_; conv => whnf) | (refine wIf_ff ?_; conv => whnf) | (refine ⟨(by decide : (_ : Int) ≠ 0), fun w _ hw => ?_⟩; replace hw := hw (by decide); conv => whnf) | (refine ⟨(by decide : (_ : Int) ≠ 0), div_lit (by decide), fun w _ hw => ?_⟩; replace hw := hw (by decide); conv => whnf) | (refine eq_rD ?_; conv => whnf) | (refine eq_ts ?_; conv => whnf) | (refine ne_ts ?_; conv => whnf) | (refine ne_rD ?_; conv => whnf) | (refine eq_vD ?_; conv => whnf) | (refine ne_vD ?_; conv => whnf) | (refine ⟨isi_ok rfl, ?_⟩; conv => whnf) | (apply wMulS.mk; (first | exact mul_l (by decide) (by decide) | exact mul_r (by decide) (by decide) | exact mul_ok (by l_ints) (by l_ints) (by decide)); conv => whnf) | (refine ⟨⟨by decide, by decide, by decide⟩, ?_⟩; conv => whnf) | (refine ⟨⟨by decide, by decide, by omega⟩, ?_⟩; conv => whnf) | (refine ⟨small_sz (Nat.le_of_ble_eq_true rfl), ?_⟩; conv => whnf) | fail))
    refine ⟨small_sz (by simp at hl ⊢; omega), ?_⟩
    exact neww ((s.1 : Int), s.2.num, 0) (bad1 _ (.inr (.inr (decide_eq_false fun z => by have : (1 : Int) ≤ 0 := z.2.1; omega)))) (b1.1.mono (by omega)) zero
  · ((conv => whnf); repeat (first | (refine wIf_tt ?_; conv => whnf) | (refine wIf_ff ?_; conv => whnf) | (refine ⟨(by decide : (_ : Int) ≠ 0), fun w _ hw => ?_⟩; replace hw := hw (by decide); conv => whnf) | (refine ⟨(by decide : (_ : Int) ≠ 0), div_lit (by decide), fun w _ hw => ?_⟩; replace hw := hw (by decide); conv => whnf) | (refine eq_rD ?_; conv => whnf) | (refine eq_ts ?_; conv => whnf) | (refine ne_ts ?_; conv => whnf) | (refine ne_rD ?_; conv => whnf) | (refine eq_vD ?_; conv => whnf) | (refine ne_vD ?_; conv => whnf) | (refine ⟨isi_ok rfl, ?_⟩; conv => whnf) | (apply wMulS.mk; (first | exact mul_l (by decide) (by decide) | exact mul_r (by decide) (by decide) | exact mul_ok (by l_ints) (by l_ints) (by decide)); conv => whnf) | (refine ⟨⟨by decide, by decide, by decide⟩, ?_⟩; conv => whnf) | (refine ⟨⟨by decide, by decide, by omega⟩, ?_⟩; conv => whnf) | (refine ⟨small_sz (Nat.le_of_ble_eq_true rfl), ?_⟩; conv => whnf) | fail))
    refine ⟨small_sz (by simp at hl ⊢; omega), ?_⟩
    exact neww ((s.1 : Int), -s.2.num, s.2.den) (bad1 _ (.inr (.inr (decide_eq_false fun z => by have : (1 : Int) ≤ -s.2.num := z.1; omega)))) (b1.1.neg.mono (by omega)) (b1.2.mono (by omega))
  · ((conv => whnf); repeat (first | (refine wIf_tt ?_; conv => whnf) | (refine wIf_ff ?_; conv => whnf) | (refine ⟨(by decide : (_ : Int) ≠ 0), fun w _ hw => ?_⟩; replace hw := hw (by decide); conv => whnf) | (refine ⟨(by decide : (_ : Int) ≠ 0), div_lit (by decide), fun w _ hw => ?_⟩; replace hw := hw (by decide); conv => whnf) | (refine eq_rD ?_; conv => whnf) | (refine eq_ts ?_; conv => whnf) | (refine ne_ts ?_; conv => whnf) | (refine ne_rD ?_; conv => whnf) | (refine eq_vD ?_; conv => whnf) | (refine ne_vD ?_; conv => whnf) | (refine ⟨isi_ok rfl, ?_⟩; conv => whnf) | (apply wMulS.mk; (first | exact mul_l (by decide) (by decide) | exact mul_r (by decide) (by decide) | exact mul_ok (by l_ints) (by l_ints) (by decide)); conv => whnf) | (refine ⟨⟨by decide, by decide, by decide⟩, ?_⟩; conv => whnf) | (refine ⟨⟨by decide, by decide, by omega⟩, ?_⟩; conv => whnf) | (refine ⟨small_sz (Nat.le_of_ble_eq_true rfl), ?_⟩; conv => whnf) | fail))
    refine ⟨small_sz (by simp at hl ⊢; omega), ?_⟩
    refine neww ((s.1 : Int), s.2.num + s.2.den, s.2.den) (fun fl => ?_) ((b1.1.add b1.2).mono (by omega)) (b1.2.mono (by omega))
    obtain ⟨p1, p2, p3⟩ := plus_one s.2 (by omega)
    refine .inr ⟨(s.1, s.2 + 1) :: ts, ?_, ⟨hg.len, fun t ht => ?_, ?_⟩, fun z => ?_⟩
    · rw [List.map_cons]
      unfold raw
      rw [p1, p2]
    · rcases List.mem_cons.mp ht with h | h
      · rw [h]
        exact ⟨os.lt, by show 0 < (s.2 + 1).num; rw [p1]; omega, by show Bd _ (s.2 + 1).num; rw [p1]; exact (b1.1.add b1.2).mono (by omega), by show Bd _ ((s.2 + 1).den : Int); rw [p2]; exact b1.2.mono (by omega)⟩
      · have o := hg.ok t (List.mem_cons_of_mem _ h)
        exact ⟨o.lt, o.pos, o.rb.mono (by omega)⟩
    · have u := hg.up
      rw [List.pairwise_cons] at u ⊢
      exact u
    · have e2 : qtot one1 ((s.1, s.2 + 1) :: ts) = qtot one1 (s :: ts) + 1 := by
        rw [qtot_cons, qtot_cons]
        have : ((one1 s.1 : Int) : Rat) = 1 := rfl
        dsimp only
        rw [this]
        grind
      rw [e2] at z
      have := z.2.1
      grind
end DL
end
section
namespace DL
end DL
end
section
namespace DL
end DL
end
section
namespace DL
end DL
end
section
namespace DL
end DL
end
section
set_option maxRecDepth 100000
set_option maxHeartbeats 4000000
set_option exponentiation.threshold 100000
namespace DL
open PySem L2
local macro_rules | `(tactic| l_ints) => `(tactic| first | (assumption) | (apply Bd.neg; l_ints) | (apply Bd.mul <;> l_ints) | (exact bd40 (by omega) (by omega)) | (apply Bd.add <;> l_ints) | (apply Bd.sub <;> l_ints) | (exact bd130 (by omega) (by omega)) | (exact bd210 (by omega) (by omega)) | (exact bd_self _) | fail)
structure RowG (n : Nat) (ss : List Sh) : Prop where
  good : Good 24 n ss
  len : ss.length ≤ 12
  w : ∃ W : Int, 0 < W ∧ Bd 10 W ∧ ∀ s ∈ ss, (s.2.den : Int) ∣ W
theorem RowG.rb {n : Nat} {ss : List Sh} (h : RowG n ss) : RB 43 (qtot one1 ss) := by
  obtain ⟨W, W0, bW, dv⟩ := h.w
  rw [← tot_q one1 W (by omega) ss dv]
  exact RB.divInt ((tot_bd one1 1 24 10 (fun i => show Bd 1 (1 : Int) by decide) W bW ss h.good.len fun s hs => (h.good.ok s hs).rb).mono (by omega)) (bW.mono (by omega)) (by omega)
theorem RowG.pb {w : Wt} {ss : List Sh} (ow : WtOk 140 12 w) (h : RowG w.1.length ss) : PB 370 (legE w ss) (legN w ss) := by
  obtain ⟨W, W0, bW, dv⟩ := h.w
  have p1 := qtot_pbW (eF w.1) (nF w.1) (a := 140) (k := 24) (fun i => (vAt_bd ow.vb i).1) (fun i => (vAt_bd ow.vb i).2) h.good.len W0 bW dv fun s hs => (h.good.ok s hs).rb
  have p2 := pb_times (a := 140) ow.st h.rb
  exact (p1.add p2).mono (by omega)
structure RowsOk (ws : List Wt) (cr : List (List Sh)) (m : Nat) (fl : Bool) : Prop where
  at_ : ∀ (i : Nat) (c : List Sh), cr[i]? = some c → ∃ w, ws[i]? = some w ∧ RowG w.1.length c ∧ sumOk (fl && decide (i + 1 = m)) (qtot one1 c)
def rawsD (rcs : List (List Raw)) : D := .tuple (rcs.map rowsD)
def TailBad (ws : List Wt) (cr : List (List Sh)) (tail : List (List Raw)) (fl : Bool) : Prop := ∃ (w : Wt) (bad : List Raw) (rest : List (List Raw)), ws[cr.length]? = some w ∧ tail = bad :: rest ∧ bad.length ≤ 14 ∧ (∀ r ∈ bad, Bd 30 r.2.1 ∧ Bd 30 r.2.2) ∧ rowBad 30 w.1.length (fl && decide (rest = [])) bad
def spEnd (fl : Bool) : DSp := fun ds Q X => ∃ (ws : List Wt) (cr : List (List Sh)) (tail : List (List Raw)), ds = [watD ws, rawsD (cr.map (·.map raw) ++ tail)] ∧ ws.length ≤ 12 ∧ (∀ w ∈ ws, WtOk 140 12 w) ∧ cr.length + tail.length ≤ 1000 ∧
  RowsOk ws cr (cr.length + tail.length) fl ∧
  ((tail = [] ∧ (fl = false → cr.length = ws.length) ∧ Q (.d (PD (endE ws cr) (endN ws cr)))) ∨ (X 4 ∧ ((if fl then cr.length + tail.length > ws.length else cr.length + tail.length ≠ ws.length) ∨ (cr.length + tail.length ≤ ws.length ∧ TailBad ws cr tail fl))))
theorem end_pb {ws : List Wt} {cr : List (List Sh)} {m : Nat} {fl : Bool} (hw : ∀ w ∈ ws, WtOk 140 12 w) (h : RowsOk ws cr m fl) : ∀ i, i ≤ cr.length → PB (1 + i * 372) (endE ws (cr.take i)) (endN ws (cr.take i))
  | 0, _ => by
    rw [List.take_zero, (end_nil ws).1, (end_nil ws).2]
    unfold PB
    rw [show plc 0 0 = (0, 0, 1) from by decide]
    exact ⟨by decide, by decide, by decide⟩
  | i + 1, hi => by
    have ih := end_pb hw h i (by omega)
    have e := List.getElem?_eq_getElem (show i < cr.length by omega)
    obtain ⟨w, e1, rg, _⟩ := h.at_ i _ e
    rw [endE_snoc ws cr i w _ e1 e, endN_snoc ws cr i w _ e1 e]
    exact (ih.add (rg.pb (hw w (List.mem_of_getElem? e1)))).mono (by omega)
end DL
end
section
namespace DL
end DL
end
section
namespace DL
end DL
end
section
namespace DL
end DL
end
section
namespace DL
end DL
end
section
set_option maxRecDepth 100000
set_option maxHeartbeats 4000000
set_option exponentiation.threshold 100000
namespace DL
open PySem L2
local macro_rules | `(tactic| l_ints) => `(tactic| first | (assumption) | (apply Bd.neg; l_ints) | (apply Bd.mul <;> l_ints) | (exact bd40 (by omega) (by omega)) | (apply Bd.add <;> l_ints) | (apply Bd.sub <;> l_ints) | (exact bd130 (by omega) (by omega)) | (exact bd210 (by omega) (by omega)) | (exact bd_self _) | fail)
theorem rowG_of {ws : List Wt} {cr : List (List Sh)} (co : CrOk ws cr) (cg : CrG ws cr) {i : Nat} {c : List Sh} {w : Wt} (e : cr[i]? = some c) (ew : ws[i]? = some w) : RowG w.1.length c ∧ qtot one1 c = 1 ∧ ∃ W : Int, 0 < W ∧ W ≤ 60 ∧ ∀ s ∈ c, (s.2.den : Int) ∣ W := by
  obtain ⟨w', e1, ow, l, sh⟩ := co.at_ i c e
  rw [ew] at e1
  cases e1
  obtain ⟨b, hb, sb⟩ := cg.by_ i c w e ew
  refine ⟨⟨⟨sb.good.len, fun s hs => ⟨(sb.good.ok s hs).lt, (sb.good.ok s hs).pos, ((sh s hs).2.rb (m := 11) (by decide)).mono (by decide)⟩, sb.good.up⟩, l, b, sb.pos, bd_of (by have := sb.pos; omega) (by omega), sb.dvd⟩, sb.one, b, sb.pos, hb, sb.dvd⟩
theorem dep_le {n : Nat} : ∀ ds : List D, (∀ d ∈ ds, d.depth ≤ n) → PyData.depthAll ds ≤ n
  | [], _ => by simp [PyData.depthAll]
  | d :: ds, h => by
    have h1 := h d List.mem_cons_self
    have h2 := dep_le ds fun x hx => h x (List.mem_cons_of_mem _ hx)
    simp [PyData.depthAll]
    omega
theorem dep_wat (ws : List Wt) : PyData.depthAll (ws.map wtD) ≤ 99 := by
  refine Nat.le_trans (dep_le (n := 20) _ fun d hd => ?_) (by decide)
  obtain ⟨w, _, rfl⟩ := List.mem_map.mp hd
  have := dep_V w.1
  have h2 : (vD w.2).depth ≤ 10 := by unfold vD; simp [PyData.depth, PyData.depthAll]
  have h3 : (windD w.1).depth ≤ 15 := by unfold windD; simp [PyData.depth]; omega
  unfold wtD
  simp [PyData.depth, PyData.depthAll]
  omega
end DL
end
section
namespace DL
def m_law_spoilt_3 : Ss := (.cons (.set 3 (.call 43 (.cons (.v 2) (.cons (.int 51) (.cons (.int 12) .nil))))) (.cons (.set 4 (.call 43 (.cons (.v 2) (.cons (.int 52) (.cons (.bi .len (.cons (.v 1) .nil)) .nil))))) (.cons (.ifs (.cmp .Eq (.v 3) (.int 0)) (.cons (.ret (.sl (.v 1) .nil (.cons (.neg (.int 1)) .nil))) .nil) .nil) (.cons (.ifs (.cmp .Eq (.v 3) (.int 1)) (.cons (.ret (.bin .Add (.v 1) (.sl (.v 1) .nil (.cons (.int 1) .nil)))) .nil) .nil) (.cons (.set 5 (.call 208 (.cons (.ix (.v 1) (.v 4)) (.cons (.v 3) (.cons (.bi .len (.cons (.ix (.ix (.v 0) (.v 4)) (.int 0)) .nil)) .nil))))) (.cons (.ret (.bin .Add (.bin .Add (.sl (.v 1) .nil (.cons (.v 4) .nil)) (.tup (.cons (.v 5) .nil))) (.sl (.v 1) (.cons (.bin .Add (.v 4) (.int 1)) .nil) .nil))) .nil))))))
end DL
end
section
set_option maxRecDepth 100000
set_option maxHeartbeats 4000000
set_option exponentiation.threshold 100000
namespace DL
open PySem L2
local macro_rules | `(tactic| l_ints) => `(tactic| first | (assumption) | (apply Bd.neg; l_ints) | (apply Bd.mul <;> l_ints) | (exact bd40 (by omega) (by omega)) | (apply Bd.add <;> l_ints) | (apply Bd.sub <;> l_ints) | (exact bd130 (by omega) (by omega)) | (exact bd210 (by omega) (by omega)) | (exact bd_self _) | fail)
def BadE (ws : List Wt) (rcs : List (List Raw)) : Prop := ∃ (cr : List (List Sh)) (tail : List (List Raw)), rcs = cr.map (·.map raw) ++ tail ∧ RowsOk ws cr (cr.length + tail.length) false ∧ cr.length + tail.length ≤ 1000 ∧
  (cr.length + tail.length ≠ ws.length ∨ (cr.length + tail.length ≤ ws.length ∧ TailBad ws cr tail false))
theorem rowsOk_of {ws : List Wt} {cr : List (List Sh)} (co : CrOk ws cr) (cg : CrG ws cr) (m : Nat) (fl : Bool) : RowsOk ws cr m fl := ⟨fun i c e => by
  obtain ⟨w, e1, _⟩ := co.at_ i c e
  obtain ⟨g, s, _⟩ := rowG_of co cg e e1
  exact ⟨w, e1, g, by rw [s]; decide, by rw [s]; exact Rat.le_refl, .inl s⟩⟩
theorem rowsOk_take {ws : List Wt} {cr : List (List Sh)} {m : Nat} (h : RowsOk ws cr m false) (k m' : Nat) : RowsOk ws (cr.take k) m' false := ⟨fun i c e => by
  rw [List.getElem?_take] at e
  split at e
  · exact h.at_ i c e
  · cases e⟩
def sp_law_spoilt_3 : DSp := fun ds Q X => ∃ (ws : List Wt) (cr : List (List Sh)) (c : Int), ds = [watD ws, courseD cr, .int c] ∧ ws ≠ [] ∧ ws.length ≤ 12 ∧ CrOk ws cr ∧ CrG ws cr ∧ ∀ rcs, BadE ws rcs → Q (.d (rawsD rcs))
theorem p_law_spoilt_3 {G : Nat → DSp} (g43 : G 43 = sp_law_draw) (g208 : G 208 = sp_law_spoilt_shares) : FnW G 6 3 m_law_spoilt_3 sp_law_spoilt_3 := by
  intro ds Q X ⟨ws, cr, c, e, ne, l12, co, cg, q⟩
  subst e
  refine ⟨rfl, ?_⟩
  have dr : ∀ (a k m : Int) (W : R → Prop) {X : Nat → Prop}, (0 ≤ k ∧ k ≤ 1000000 ∧ 0 < m) → (∀ z : Int, 0 ≤ z → z < m → W (.d (.int z))) → G 43 [.int a, .int k, .int m] W X := fun a k m W _ hh h => gC g43 ⟨a, k, m, rfl, hh.1, hh.2.1, hh.2.2, h⟩
  have len : (((cr.map sharesD).length : Nat) : Int) = cr.length := by simp
  have srw : ∀ L : List Sh, sharesD L = rowsD (L.map raw) := fun L => by unfold sharesD rowsD; rw [List.map_map]; rfl
  have ll := cg.len
  have l0 : 0 < ws.length := by cases ws with | nil => exact absurd rfl ne | cons => simp
  have ro := rowsOk_of co cg
  conv => whnf
  refine dr c 51 _ _ (by omega) fun way y0 y1 => ?_
  conv => whnf
  refine dr c 52 _ _ (by omega) fun at_ t0 t1 => ?_
  conv => whnf
  refine wIf.mk (fun hy => ?_) (fun hy => ?_)
  · conv => whnf
    rw [cut_init, ← List.map_dropLast]
    have fin := q (cr.dropLast.map (·.map raw) ++ []) ⟨cr.dropLast, [], rfl, by rw [List.dropLast_eq_take]; exact rowsOk_take (ro 0 false) _ _, by simp; omega, .inl (by simp; omega)⟩
    unfold rawsD at fin
    rw [List.append_nil, List.map_map, show (rowsD ∘ fun x : List Sh => x.map raw) = sharesD from funext fun x => (srw x).symm] at fin
    exact fin
  have hy := of_decide_eq_false hy
  conv => whnf
  refine wIf.mk (fun hz => ?_) (fun hz => ?_)
  · conv => whnf
    rw [show cutD (cr.map sharesD) none (some 1) = (cr.take 1).map sharesD from by rw [List.map_take]; exact cut_to _ 1]
    have fin := q (cr.map (·.map raw) ++ (cr.take 1).map (·.map raw)) ⟨cr, (cr.take 1).map (·.map raw), rfl, ro _ _, by simp; omega, .inl (by simp; omega)⟩
    unfold rawsD at fin
    rw [List.map_append, List.map_map, List.map_map, show (rowsD ∘ fun x : List Sh => x.map raw) = sharesD from funext fun x => (srw x).symm] at fin
    refine ⟨small_sz (by simp; omega), ?_⟩
    exact fin
  have hz := of_decide_eq_false hz
  obtain ⟨k, rfl⟩ := Int.eq_ofNat_of_zero_le t0
  have hk : k < cr.length := by simpa using t1
  have hkw : k < ws.length := by omega
  have lt : (cr.take k).length = k := by rw [List.length_take]; omega
  obtain ⟨ck, eck⟩ : ∃ ck, ck = cr[k] := ⟨_, rfl⟩
  obtain ⟨wk, ewk⟩ : ∃ wk, wk = ws[k] := ⟨_, rfl⟩
  have a1 : atI (cr.map sharesD) (k : Int) = some (sharesD ck) := by
    rw [atI_at (by omega) (by simp; omega)]
    simp [hk, eck]
  have a2 : atI (ws.map wtD) (k : Int) = some (wtD wk) := by
    rw [atI_at (by omega) (by simp; omega)]
    simp [hkw, ewk]
  obtain ⟨w', ew', rg, so⟩ := (ro 0 false).at_ k ck (by rw [List.getElem?_eq_getElem hk, eck])
  rw [List.getElem?_eq_getElem hkw] at ew'
  cases ew'
  rw [← ewk] at rg
  have rl := rg.len
  conv => whnf
  rw [a1]
  conv => whnf
  rw [a2]
  ((conv => whnf); repeat' (first | (refine wIf_tt ?_; conv => whnf) | (refine wIf_ff ?_; conv => whnf) | (refine wIf.mk (fun hif => (have hif := of_decide_eq_true hif; ?_)) (fun hif => (have hif := of_decide_eq_false hif; ?_)) <;> (conv => whnf)) | (refine wIf_not ?_) | (refine ⟨(by decide : (_ : Int) ≠ 0), fun w _ hw => ?_⟩; replace hw := hw (by decide); conv => whnf) | (refine ⟨(by decide : (_ : Int) ≠ 0), div_lit (by decide), fun w _ hw => ?_⟩; replace hw := hw (by decide); conv => whnf) | (refine eq_rD ?_; conv => whnf) | (refine eq_ts ?_; conv => whnf) | (refine ne_ts ?_; conv => whnf) | (refine ne_rD ?_; conv => whnf) | (refine eq_vD ?_; conv => whnf) | (refine ne_vD ?_; conv => whnf) | (refine ⟨isi_ok rfl, ?_⟩; conv => whnf) | (apply wMulS.mk; (first | exact mul_l (by decide) (by decide) | exact mul_r (by decide) (by decide) | exact mul_ok (by l_ints) (by l_ints) (by decide)); conv => whnf) | (refine ⟨⟨by decide, by decide, by decide⟩, ?_⟩; conv => whnf) | (refine ⟨⟨by decide, by decide, by omega⟩, ?_⟩; conv => whnf) | (refine ⟨small_sz (Nat.le_of_ble_eq_true rfl), ?_⟩; conv => whnf) | fail))
  rw [show (wk.1.map vD).length = wk.1.length from by simp]
  have ckn : ck ≠ [] := fun z => by
    have := so.1
    rw [z, qtot_nil] at this
    exact Rat.lt_irrefl this
  refine gC g208 ⟨ck, way, wk.1.length, 28, rfl, rg.good.mono (by decide), ckn, by omega, so.1, by omega, by omega, by decide, fun rs r1 r2 r3 => ?_⟩
  have cut1 : cutD (cr.map sharesD) none (some (k : Int)) = (cr.take k).map sharesD := by rw [cut_to, List.map_take]
  have cut2 : cutD (cr.map sharesD) (some ((k : Int) + 1)) none = (cr.drop (k + 1)).map sharesD := by
    rw [show ((k : Int) + 1) = ((k + 1 : Nat) : Int) from by omega, cut_from, List.map_drop]
  have fin := q ((cr.take k).map (·.map raw) ++ rs :: (cr.drop (k + 1)).map (·.map raw)) ⟨cr.take k, rs :: (cr.drop (k + 1)).map (·.map raw), rfl, rowsOk_take (ro 0 false) _ _, by simp; omega,
    .inr ⟨by simp; omega, wk, rs, _, by rw [lt, List.getElem?_eq_getElem hkw, ewk], rfl, by omega, r2, r3 _⟩⟩
  unfold rawsD at fin
  rw [List.map_append, List.map_cons, List.map_map, List.map_map, show (rowsD ∘ fun x : List Sh => x.map raw) = sharesD from funext fun x => (srw x).symm] at fin
  conv => whnf
  rw [cut1]
  refine ⟨small_sz (by simp), ?_⟩
  conv => whnf
  refine ⟨small_sz (by simp; omega), ?_⟩
  conv => whnf
  rw [cut2]
  refine ⟨small_sz (by simp; omega), ?_⟩
  rw [List.append_assoc]
  exact fin
end DL
end
section
namespace DL
def m_law_refused_3 : Ss := (.cons (.tryC (.cons (.ex (.call 207 (.cons (.v 0) (.cons (.v 1) .nil)))) .nil) 3 2 4 99 [6, 1, 3, 2, 5] [1, 2, 3, 4, 5, 6]) .nil)
end DL
end
section
namespace DL
def m_law_27 : Ss := (.cons (.set 1 (.call 47 (.cons (.v 0) .nil))) (.cons (.for_ (.nm 2) (.ex (.sl (.bin .Add (.lst (.cons (.int 0) .nil)) (.v 0)) (.cons (.neg (.int 3)) .nil) .nil)) (.cons (.set 3 (.call 89 (.cons (.v 1) (.cons (.v 2) .nil)))) (.cons (.set 4 (.call 91 (.cons (.v 1) (.cons (.v 3) .nil)))) (.cons (.ifs (.not (.call 87 (.cons (.call 207 (.cons (.v 1) (.cons (.v 3) .nil))) (.cons (.v 4) .nil)))) (.cons (.ret (.bl false)) .nil) .nil) (.cons (.ifs (.and (.cmp .NotEq (.v 1) (.tup .nil)) (.not (.call 210 (.cons (.v 1) (.cons (.call 209 (.cons (.v 1) (.cons (.v 3) (.cons (.v 2) .nil)))) .nil))))) (.cons (.ret (.bl false)) .nil) .nil) (.cons (.ifs (.not (.call 87 (.cons (.call 207 (.cons (.v 1) (.cons (.v 3) .nil))) (.cons (.v 4) .nil)))) (.cons (.ret (.bl false)) .nil) .nil) .nil)))))) (.cons (.ret (.call 210 (.cons (.v 1) (.cons (.bin .Mult (.tup (.cons (.tup .nil) .nil)) (.bin .Add (.bi .len (.cons (.v 1) .nil)) (.int 1))) .nil)))) .nil)))
end DL
end
section
set_option maxRecDepth 100000
set_option maxHeartbeats 4000000
set_option exponentiation.threshold 100000
namespace DL
open PySem L2
local macro_rules | `(tactic| l_ints) => `(tactic| first | (assumption) | (apply Bd.neg; l_ints) | (apply Bd.mul <;> l_ints) | (exact bd40 (by omega) (by omega)) | (apply Bd.add <;> l_ints) | (apply Bd.sub <;> l_ints) | (exact bd130 (by omega) (by omega)) | (exact bd210 (by omega) (by omega)) | (exact bd_self _) | fail)
theorem idx_ind {st : D → En → (En → Prop) → Prop} {body : DE → En → Prop} {E : DE} (ds : List D) (P : Nat → En → Prop) (h0 : ∀ ρ, P ds.length ρ → E.nx ρ)
    (h1 : ∀ i d ρ, ds[i]? = some d → P i ρ → ∀ nx : En → Prop, (∀ ρ', P (i + 1) ρ' → nx ρ') → st d ρ fun ρ2 => body { E with nx := nx, bk := E.nx } ρ2) :
    ∀ ρ, P 0 ρ → forLoop st body E ds ρ := by
  intro ρ h
  refine forLoop_ind (fun rest ρ => ∃ i, rest = ds.drop i ∧ i ≤ ds.length ∧ P i ρ) ?_ ?_ _ _ ⟨0, rfl, Nat.zero_le _, h⟩
  · rintro ρ ⟨i, e, hi, h⟩
    have : i = ds.length := by
      have := congrArg List.length e
      simp at this
      omega
    subst this
    exact h0 ρ h
  · rintro d rest ρ ⟨i, e, hi, h⟩ nx hnx
    have hl : i < ds.length := by
      have := congrArg List.length e
      simp at this
      omega
    rw [List.drop_eq_getElem_cons hl] at e
    injection e with e1 e2
    exact h1 i d ρ (by rw [List.getElem?_eq_getElem hl, e1]) h nx fun ρ' h' => hnx ρ' ⟨i + 1, e2, hl, h'⟩
def sp_course_end : DSp := spEnd false
theorem p_course_end {G : Nat → DSp} (g23 : G 23 = sp_place_added) (g206 : G 206 = sp_watch_end) : FnW G 5 2 m_course_end sp_course_end := by
  intro ds Q X ⟨ws, cr, tail, e, hl, hw, hn, ro, h⟩
  subst e
  refine ⟨rfl, ?_⟩
  have len1 : ((((cr.map (·.map raw) ++ tail).map rowsD).length : Nat) : Int) = cr.length + tail.length := by simp
  have len2 : (((ws.map wtD).length : Nat) : Int) = ws.length := by simp
  conv => whnf
  refine wIf_not ?_
  refine wIf.mk (fun hc => ?_) (fun hc => ?_)
  rotate_left
  · have hc := of_decide_eq_false hc
    have hc : cr.length + tail.length ≠ ws.length := by omega
    rcases h with ⟨h1, h2, _⟩ | ⟨hx, _⟩
    · exfalso
      have := h2 rfl
      subst h1
      simp at hc
      exact hc this
    · exact hx
  have hc := of_decide_eq_true hc
  have hc : cr.length + tail.length = ws.length := by omega
  conv => whnf
  refine ⟨rfl, ?_⟩
  have e0 : PD 0 0 = glD 2 := pd00b
  refine idx_ind _ (fun i ρ => i ≤ cr.length ∧ ∃ (a b : Option DL.R), ρ = [some (.d (watD ws)), some (.d (rawsD (cr.map (·.map raw) ++ tail))), some (.d (PD (endE ws (cr.take i)) (endN ws (cr.take i)))), a, b]) ?_ ?_ _ ⟨Nat.zero_le _, _, _, by rw [List.take_zero, (end_nil ws).1, (end_nil ws).2, e0]; rfl⟩
  · rintro ρ ⟨hi, a, b, rfl⟩
    rw [zip_len, List.length_map, List.length_map, List.length_append, List.length_map] at hi ⊢
    have ht : tail = [] := List.eq_nil_of_length_eq_zero (by omega)
    rcases h with ⟨h1, _, q⟩ | ⟨_, h2 | ⟨_, w, bad, rest, _, h3, _⟩⟩
    · subst h1
      conv => whnf
      rw [List.take_of_length_le (by simp at hc ⊢; omega)]
      exact q
    · exact absurd hc (by simpa using h2)
    · rw [ht] at h3; cases h3
  · rintro i d ρ hd ⟨hi, a, b, rfl⟩ nx hnx
    obtain ⟨d1, d2, g1, g2, rfl⟩ := zip_get hd
    obtain ⟨w, ew, rfl⟩ : ∃ w, ws[i]? = some w ∧ d1 = wtD w := by
      rw [List.getElem?_map] at g1
      cases q : ws[i]? with
      | none => rw [q] at g1; cases g1
      | some w => rw [q] at g1; exact ⟨w, rfl, (Option.some.inj g1).symm⟩
    obtain ⟨row, hrow, rfl⟩ : ∃ row, (cr.map (·.map raw) ++ tail)[i]? = some row ∧ d2 = rowsD row := by
      rw [List.getElem?_map] at g2
      cases q : (cr.map (·.map raw) ++ tail)[i]? with
      | none => rw [q] at g2; cases g2
      | some row => rw [q] at g2; exact ⟨row, rfl, (Option.some.inj g2).symm⟩
    have ipb := end_pb hw ro i hi
    have ow := hw w (List.mem_of_getElem? ew)
    by_cases c : i < cr.length
    · have e := List.getElem?_eq_getElem c
      obtain ⟨w', e1, rg, so⟩ := ro.at_ i _ e
      rw [ew] at e1
      cases e1
      have s1 : qtot one1 cr[i] = 1 := so.2.2.elim id fun z => by cases z
      rw [List.getElem?_append_left (by simpa using c), List.getElem?_map, e] at hrow
      have hrow : cr[i].map raw = row := Option.some.inj hrow
      subst hrow
      conv => whnf
      refine gC g206 ⟨w, cr[i].map raw, 24, 288, rfl, ow, by rw [List.length_map]; have := rg.len; omega, fun r hr => ?_, by rw [List.length_map]; have := rg.len; omega, by decide, fun ss es _ _ => ?_, fun bad => ?_⟩
      · obtain ⟨s, hs, rfl⟩ := List.mem_map.mp hr
        exact (rg.good.ok s hs).rb
      · have es := raw_inj es
        subst es
        conv => whnf
        refine gC g23 ⟨_, _, _, _, _, _, rfl, ipb, rg.pb ow, by have := hl; have : i * 372 ≤ 12 * 372 := Nat.mul_le_mul_right _ (by omega); omega, ?_⟩
        rw [← endE_snoc ws cr i w _ ew e, ← endN_snoc ws cr i w _ ew e]
        exact hnx _ ⟨by omega, _, _, rfl⟩
      · rcases bad with bad | ⟨ss, es, _, ns⟩
        · rw [rg.good.raw] at bad
          cases bad
        · have es := raw_inj es
          subst es
          exact absurd so ns
    · have ic : i = cr.length := by omega
      subst ic
      rcases h with ⟨h1, _, q⟩ | ⟨hx, h2 | ⟨_, w', bad, rest, e1, h3, h4, h5, h6⟩⟩
      · subst h1
        rw [List.append_nil, List.getElem?_eq_none (by simp)] at hrow
        cases hrow
      · exact absurd hc (by simpa using h2)
      · subst h3
        rw [ew] at e1
        cases e1
        rw [List.getElem?_append_right (by simp), List.length_map, Nat.sub_self] at hrow
        have hrow : bad = row := Option.some.inj hrow
        subst hrow
        conv => whnf
        refine gC g206 ⟨w, bad, 30, 420, rfl, ow, by omega, h5, by omega, by decide, fun ss es gg so => ?_, fun _ => hx⟩
        exfalso
        rcases h6 with h6 | ⟨ts, et, gt, nt⟩
        · rw [es, gg.raw] at h6
          cases h6
        · rw [es] at et
          have := raw_inj et
          subst this
          exact nt ⟨by rw [so]; decide, by rw [so]; exact Rat.le_refl, .inl so⟩
def sp_law_refused_3 : DSp := fun ds Q X => ∃ (ws : List Wt) (rcs : List (List Raw)), ds = [watD ws, rawsD rcs] ∧ ws.length ≤ 12 ∧ (∀ w ∈ ws, WtOk 140 12 w) ∧ BadE ws rcs ∧ Q (.d (.bool true))
theorem p_law_refused_3 {G : Nat → DSp} (g207 : G 207 = sp_course_end) : FnW G 4 2 m_law_refused_3 sp_law_refused_3 := by
  intro ds Q X ⟨ws, rcs, e, l12, hw, ⟨cr, tail, et, ro, hn, hb⟩, q⟩
  subst e
  refine ⟨rfl, ?_⟩
  conv => whnf
  refine ⟨by simp [dst], ?_⟩
  conv => whnf
  exact gC g207 ⟨ws, cr, tail, by rw [et], l12, hw, hn, ro, .inr ⟨⟨by decide, by simp [dst], by simp [dst], q⟩, by simpa using hb⟩⟩
theorem badE_long {ws : List Wt} (l12 : ws.length ≤ 12) : BadE ws (List.replicate (ws.length + 1) []) :=
  ⟨[], List.replicate (ws.length + 1) [], rfl, ⟨fun i c e => by cases e⟩, by simp; omega, .inl (by simp)⟩
def sp_law_27 : DSp := fun ds Q X => ∃ ns : List Int, ds = [.list (ns.map .int)] ∧ ns.length ≤ 63 ∧ Q (.d (.bool true))
theorem p_law_27 {G : Nat → DSp} (g47 : G 47 = sp_law_watches) (g89 : G 89 = sp_law_course) (g91 : G 91 = sp_law_end_2) (g87 : G 87 = sp_law_same_2 5) (g207 : G 207 = sp_course_end) (g209 : G 209 = sp_law_spoilt_3) (g210 : G 210 = sp_law_refused_3) : FnW G 5 1 m_law_27 sp_law_27 := by
  intro ds Q X ⟨ns, e, ln, q⟩
  subst e
  refine ⟨rfl, ?_⟩
  conv => whnf
  refine gC g47 ⟨ns, rfl, fun ws l12 hw => ?_⟩
  conv => whnf
  refine ⟨small_sz (by simp), ?_⟩
  conv => whnf
  refine ⟨small_sz (by simp; omega), ?_⟩
  obtain ⟨qs, hqs⟩ : ∃ qs : List Int, cutD ([PyData.int 0] ++ ns.map PyData.int) (some (-3)) none = qs.map .int := by
    unfold cutD
    refine ⟨((0 :: ns).drop (HT.sIx ([PyData.int 0] ++ ns.map PyData.int).length 0 (some (-3)))).take (HT.sIx ([PyData.int 0] ++ ns.map PyData.int).length ([PyData.int 0] ++ ns.map PyData.int).length none - HT.sIx ([PyData.int 0] ++ ns.map PyData.int).length 0 (some (-3))), ?_⟩
    rw [List.map_take, List.map_drop]
    rfl
  conv => whnf
  rw [hqs]
  refine ⟨rfl, ?_⟩
  refine for_map PyData.int qs (fun ρ => ∃ a b c, ρ = [some (.d (.list (ns.map .int))), some (.d (watD ws)), a, b, c]) ?_ ?_ _ ⟨_, _, _, rfl⟩
  · rintro ρ ⟨a, b, c, rfl⟩
    have lw : (((ws.map wtD).length : Nat) : Int) = ws.length := by simp
    conv => whnf
    refine ⟨small_sz (by simp), ?_⟩
    conv => whnf
    refine ⟨small_sz (by simp), ?_⟩
    conv => whnf
    rw [lw]
    refine ⟨by omega, by omega, by simp, by simp, ?_⟩
    have er : PyData.tuple (List.replicate ((ws.length : Int) + 1).toNat [PyData.tuple []]).flatten = rawsD (List.replicate (ws.length + 1) []) := by
      unfold rawsD
      rw [show ((ws.length : Int) + 1).toNat = ws.length + 1 from by omega, List.map_replicate, List.flatten_replicate_singleton]
      rfl
    rw [er]
    conv => whnf
    exact gC g210 ⟨ws, _, rfl, l12, hw, badE_long l12, q⟩
  rintro z hz ρ ⟨a, b, c, rfl⟩ nx hnx
  conv => whnf
  refine gC g89 ⟨ws, z, rfl, l12, hw, fun wc wo wg => ?_⟩
  conv => whnf
  refine gC g91 ⟨ws, wc, rfl, wo, fun e n he hn hp => ?_⟩
  subst he hn
  have esc : courseD wc = rawsD (wc.map (·.map raw) ++ []) := by
    unfold courseD rawsD
    rw [List.append_nil, List.map_map]
    refine congrArg _ (List.map_congr_left fun s _ => ?_)
    show sharesD s = rowsD (s.map raw)
    unfold sharesD rowsD
    rw [List.map_map]
    rfl
  have l2 := wo.len
  have wl := wg.len
  have endok : ∀ {W : R → Prop} {X : Nat → Prop}, W (.d (PD (endE ws wc) (endN ws wc))) → G 207 [watD ws, courseD wc] W X := fun h => by
    rw [esc]
    exact gC g207 ⟨ws, wc, [], rfl, l12, hw, by simp; omega, rowsOk_of wo wg _ _, .inl ⟨rfl, fun _ => wl, h⟩⟩
  have okp : ∀ e n : Rat, okS 5 (PD e n) := fun e n => ⟨by simp, fun d hd => by
    simp at hd
    rcases hd with h | h | h <;> subst h <;> exact trivial⟩
  conv => whnf
  refine endok ?_
  conv => whnf
  refine gC g87 ⟨_, rfl, okp _ _, ?_⟩
  ((conv => whnf); repeat' (first | (refine wIf_tt ?_; conv => whnf) | (refine wIf_ff ?_; conv => whnf) | (refine wIf.mk (fun hif => (have hif := of_decide_eq_true hif; ?_)) (fun hif => (have hif := of_decide_eq_false hif; ?_)) <;> (conv => whnf)) | (refine wIf_not ?_) | (refine ⟨(by decide : (_ : Int) ≠ 0), fun w _ hw => ?_⟩; replace hw := hw (by decide); conv => whnf) | (refine ⟨(by decide : (_ : Int) ≠ 0), div_lit (by decide), fun w _ hw => ?_⟩; replace hw := hw (by decide); conv => whnf) | (refine eq_rD ?_; conv => whnf) | (refine eq_ts ?_; conv => whnf) | (refine ne_ts ?_; conv => whnf) | (refine ne_rD ?_; conv => whnf) | (refine eq_vD ?_; conv => whnf) | (refine ne_vD ?_; conv => whnf) | (refine ⟨isi_ok rfl, ?_⟩; conv => whnf) | (apply wMulS.mk; (first | exact mul_l (by decide) (by decide) | exact mul_r (by decide) (by decide) | exact mul_ok (by l_ints) (by l_ints) (by decide)); conv => whnf) | (refine ⟨⟨by decide, by decide, by decide⟩, ?_⟩; conv => whnf) | (refine ⟨⟨by decide, by decide, by omega⟩, ?_⟩; conv => whnf) | (refine ⟨small_sz (Nat.le_of_ble_eq_true rfl), ?_⟩; conv => whnf) | fail))
  refine ⟨flat_t (dep_wat ws), ?_⟩
  have fin : ∀ {ρ : En}, (∃ a b c, ρ = [some (R.d (PyData.list (List.map PyData.int ns))), some (R.d (watD ws)), a, b, c]) → nx ρ := fun h => hnx _ h
  by_cases hn : ws = []
  · subst hn
    have ev : PyData.eqv (look (R.d (watD []))) (look (R.d (.tuple []))) = true := by
      show PyData.eqv (.tuple []) (.tuple []) = true
      rw [eqv_tup]
      exact eqv_nil
    rw [ev]
    conv => whnf
    refine wIf_ff ?_
    conv => whnf
    refine wIf_ff ?_
    conv => whnf
    refine endok ?_
    conv => whnf
    refine gC g87 ⟨_, rfl, okp _ _, ?_⟩
    ((conv => whnf); repeat' (first | (refine wIf_tt ?_; conv => whnf) | (refine wIf_ff ?_; conv => whnf) | (refine wIf.mk (fun hif => (have hif := of_decide_eq_true hif; ?_)) (fun hif => (have hif := of_decide_eq_false hif; ?_)) <;> (conv => whnf)) | (refine wIf_not ?_) | (refine ⟨(by decide : (_ : Int) ≠ 0), fun w _ hw => ?_⟩; replace hw := hw (by decide); conv => whnf) | (refine ⟨(by decide : (_ : Int) ≠ 0), div_lit (by decide), fun w _ hw => ?_⟩; replace hw := hw (by decide); conv => whnf) | (refine eq_rD ?_; conv => whnf) | (refine eq_ts ?_; conv => whnf) | (refine ne_ts ?_; conv => whnf) | (refine ne_rD ?_; conv => whnf) | (refine eq_vD ?_; conv => whnf) | (refine ne_vD ?_; conv => whnf) | (refine ⟨isi_ok rfl, ?_⟩; conv => whnf) | (apply wMulS.mk; (first | exact mul_l (by decide) (by decide) | exact mul_r (by decide) (by decide) | exact mul_ok (by l_ints) (by l_ints) (by decide)); conv => whnf) | (refine ⟨⟨by decide, by decide, by decide⟩, ?_⟩; conv => whnf) | (refine ⟨⟨by decide, by decide, by omega⟩, ?_⟩; conv => whnf) | (refine ⟨small_sz (Nat.le_of_ble_eq_true rfl), ?_⟩; conv => whnf) | fail))
    exact fin ⟨_, _, _, rfl⟩
  have ev : PyData.eqv (look (R.d (watD ws))) (look (R.d (.tuple []))) = false := by
    show PyData.eqv (.tuple (ws.map wtD)) (.tuple []) = false
    rw [eqv_tup]
    cases ws with
    | nil => exact absurd rfl hn
    | cons => rfl
  rw [ev]
  conv => whnf
  refine wIf_tt ?_
  conv => whnf
  refine gC g209 ⟨ws, wc, z, rfl, hn, l12, wo, wg, fun rcs hb => ?_⟩
  conv => whnf
  refine gC g210 ⟨ws, rcs, rfl, l12, hw, hb, ?_⟩
  conv => whnf
  refine wIf_ff ?_
  conv => whnf
  refine endok ?_
  conv => whnf
  refine gC g87 ⟨_, rfl, okp _ _, ?_⟩
  ((conv => whnf); repeat' (first | (refine wIf_tt ?_; conv => whnf) | (refine wIf_ff ?_; conv => whnf) | (refine wIf.mk (fun hif => (have hif := of_decide_eq_true hif; ?_)) (fun hif => (have hif := of_decide_eq_false hif; ?_)) <;> (conv => whnf)) | (refine wIf_not ?_) | (refine ⟨(by decide : (_ : Int) ≠ 0), fun w _ hw => ?_⟩; replace hw := hw (by decide); conv => whnf) | (refine ⟨(by decide : (_ : Int) ≠ 0), div_lit (by decide), fun w _ hw => ?_⟩; replace hw := hw (by decide); conv => whnf) | (refine eq_rD ?_; conv => whnf) | (refine eq_ts ?_; conv => whnf) | (refine ne_ts ?_; conv => whnf) | (refine ne_rD ?_; conv => whnf) | (refine eq_vD ?_; conv => whnf) | (refine ne_vD ?_; conv => whnf) | (refine ⟨isi_ok rfl, ?_⟩; conv => whnf) | (apply wMulS.mk; (first | exact mul_l (by decide) (by decide) | exact mul_r (by decide) (by decide) | exact mul_ok (by l_ints) (by l_ints) (by decide)); conv => whnf) | (refine ⟨⟨by decide, by decide, by decide⟩, ?_⟩; conv => whnf) | (refine ⟨⟨by decide, by decide, by omega⟩, ?_⟩; conv => whnf) | (refine ⟨small_sz (Nat.le_of_ble_eq_true rfl), ?_⟩; conv => whnf) | fail))
  exact fin ⟨_, _, _, rfl⟩
end DL
end
section
set_option maxRecDepth 100000
set_option maxHeartbeats 0
namespace DL
open PySem PySem.Spec PyProof.Rows L2
def top (i : Nat) : Stmt := PySem.Challenge.pw_closehaul_k25_where_courses_lead.main.body.getD i (.Pass ⟨0, 0, 0, 0⟩)
abbrev st_common_measure : Stmt := top 9
theorem sc_common_measure : FnScope ["one", "other"] ["one", "other"] (defScope st_common_measure) := ⟨rfl, rfl, rfl, by decide +kernel, rfl, by decide +kernel, by decide +kernel⟩
def dd_common_measure : He.DefD := ⟨("common_measure", none), "common_measure", "common_measure", defArgs st_common_measure, defBody st_common_measure, defScope st_common_measure, [], []⟩
abbrev st_lowest : Stmt := top 10
theorem sc_lowest : FnScope ["top", "bottom", "part"] ["top", "bottom"] (defScope st_lowest) := ⟨rfl, rfl, rfl, by decide +kernel, rfl, by decide +kernel, by decide +kernel⟩
def dd_lowest : He.DefD := ⟨("lowest", none), "lowest", "lowest", defArgs st_lowest, defBody st_lowest, defScope st_lowest, [], []⟩
abbrev st_added : Stmt := top 11
theorem sc_added : FnScope ["one", "other"] ["one", "other"] (defScope st_added) := ⟨rfl, rfl, rfl, by decide +kernel, rfl, by decide +kernel, by decide +kernel⟩
def dd_added : He.DefD := ⟨("added", none), "added", "added", defArgs st_added, defBody st_added, defScope st_added, [], []⟩
abbrev st_multiplied : Stmt := top 12
theorem sc_multiplied : FnScope ["one", "other"] ["one", "other"] (defScope st_multiplied) := ⟨rfl, rfl, rfl, by decide +kernel, rfl, by decide +kernel, by decide +kernel⟩
def dd_multiplied : He.DefD := ⟨("multiplied", none), "multiplied", "multiplied", defArgs st_multiplied, defBody st_multiplied, defScope st_multiplied, [], []⟩
abbrev st_shared_measure : Stmt := top 14
theorem sc_shared_measure : FnScope ["numbers", "found", "number", "rest"] ["numbers"] (defScope st_shared_measure) := ⟨rfl, rfl, rfl, by decide +kernel, rfl, by decide +kernel, by decide +kernel⟩
def dd_shared_measure : He.DefD := ⟨("shared_measure", none), "shared_measure", "shared_measure", defArgs st_shared_measure, defBody st_shared_measure, defScope st_shared_measure, [], []⟩
abbrev st_place_lowest : Stmt := top 15
theorem sc_place_lowest : FnScope ["x", "y", "bottom", "part"] ["x", "y", "bottom"] (defScope st_place_lowest) := ⟨rfl, rfl, rfl, by decide +kernel, rfl, by decide +kernel, by decide +kernel⟩
def dd_place_lowest : He.DefD := ⟨("place_lowest", none), "place_lowest", "place_lowest", defArgs st_place_lowest, defBody st_place_lowest, defScope st_place_lowest, [], []⟩
abbrev st_place_of : Stmt := top 16
theorem sc_place_of : FnScope ["east", "north"] ["east", "north"] (defScope st_place_of) := ⟨rfl, rfl, rfl, by decide +kernel, rfl, by decide +kernel, by decide +kernel⟩
def dd_place_of : He.DefD := ⟨("place_of", none), "place_of", "place_of", defArgs st_place_of, defBody st_place_of, defScope st_place_of, [], []⟩
abbrev st_place_added : Stmt := top 17
theorem sc_place_added : FnScope ["one", "other", "x", "y"] ["one", "other"] (defScope st_place_added) := ⟨rfl, rfl, rfl, by decide +kernel, rfl, by decide +kernel, by decide +kernel⟩
def dd_place_added : He.DefD := ⟨("place_added", none), "place_added", "place_added", defArgs st_place_added, defBody st_place_added, defScope st_place_added, [], []⟩
abbrev st_fraction_stands : Stmt := top 19
theorem sc_fraction_stands : FnScope ["pair"] ["pair"] (defScope st_fraction_stands) := ⟨rfl, rfl, rfl, by decide +kernel, rfl, by decide +kernel, by decide +kernel⟩
def dd_fraction_stands : He.DefD := ⟨("fraction_stands", none), "fraction_stands", "fraction_stands", defArgs st_fraction_stands, defBody st_fraction_stands, defScope st_fraction_stands, [], []⟩
abbrev st_look_at_shares : Stmt := top 20
theorem sc_look_at_shares : FnScope ["wind", "shares", "last", "heading", "share"] ["wind", "shares"] (defScope st_look_at_shares) := ⟨rfl, rfl, rfl, by decide +kernel, rfl, by decide +kernel, by decide +kernel⟩
def dd_look_at_shares : He.DefD := ⟨("look_at_shares", none), "look_at_shares", "look_at_shares", defArgs st_look_at_shares, defBody st_look_at_shares, defScope st_look_at_shares, [], []⟩
abbrev st_heading_times : Stmt := top 21
theorem sc_heading_times : FnScope ["vector", "share"] ["vector", "share"] (defScope st_heading_times) := ⟨rfl, rfl, rfl, by decide +kernel, rfl, by decide +kernel, by decide +kernel⟩
def dd_heading_times : He.DefD := ⟨("heading_times", none), "heading_times", "heading_times", defArgs st_heading_times, defBody st_heading_times, defScope st_heading_times, [], []⟩
abbrev st_shares_end : Stmt := top 22
theorem sc_shares_end : FnScope ["wind", "shares", "end", "heading", "share"] ["wind", "shares"] (defScope st_shares_end) := ⟨rfl, rfl, rfl, by decide +kernel, rfl, by decide +kernel, by decide +kernel⟩
def dd_shares_end : He.DefD := ⟨("shares_end", none), "shares_end", "shares_end", defArgs st_shares_end, defBody st_shares_end, defScope st_shares_end, [], []⟩
abbrev st_shares_sum : Stmt := top 23
theorem sc_shares_sum : FnScope ["shares", "total", "heading", "share"] ["shares"] (defScope st_shares_sum) := ⟨rfl, rfl, rfl, by decide +kernel, rfl, by decide +kernel, by decide +kernel⟩
def dd_shares_sum : He.DefD := ⟨("shares_sum", none), "shares_sum", "shares_sum", defArgs st_shares_sum, defBody st_shares_sum, defScope st_shares_sum, [], []⟩
abbrev st_watch_end : Stmt := top 27
theorem sc_watch_end : FnScope ["watch", "shares", "place"] ["watch", "shares"] (defScope st_watch_end) := ⟨rfl, rfl, rfl, by decide +kernel, rfl, by decide +kernel, by decide +kernel⟩
def dd_watch_end : He.DefD := ⟨("watch_end", none), "watch_end", "watch_end", defArgs st_watch_end, defBody st_watch_end, defScope st_watch_end, [], []⟩
abbrev st_course_end : Stmt := top 28
theorem sc_course_end : FnScope ["watches", "course", "place", "watch", "shares"] ["watches", "course"] (defScope st_course_end) := ⟨rfl, rfl, rfl, by decide +kernel, rfl, by decide +kernel, by decide +kernel⟩
def dd_course_end : He.DefD := ⟨("course_end", none), "course_end", "course_end", defArgs st_course_end, defBody st_course_end, defScope st_course_end, [], []⟩
abbrev st_law_cell_at : Stmt := top 30
theorem sc_law_cell_at : FnScope ["script", "k"] ["script", "k"] (defScope st_law_cell_at) := ⟨rfl, rfl, rfl, by decide +kernel, rfl, by decide +kernel, by decide +kernel⟩
def dd_law_cell_at : He.DefD := ⟨("_law_cell_at", none), "_law_cell_at", "_law_cell_at", defArgs st_law_cell_at, defBody st_law_cell_at, defScope st_law_cell_at, [], []⟩
abbrev st_law_draw : Stmt := top 31
theorem sc_law_draw : FnScope ["cell", "k", "many", "prime", "mixed"] ["cell", "k", "many"] (defScope st_law_draw) := ⟨rfl, rfl, rfl, by decide +kernel, rfl, by decide +kernel, by decide +kernel⟩
def dd_law_draw : He.DefD := ⟨("_law_draw", none), "_law_draw", "_law_draw", defArgs st_law_draw, defBody st_law_draw, defScope st_law_draw, [], []⟩
abbrev st_law_vector_2 : Stmt := top 32
theorem sc_law_vector_2 : FnScope ["cell", "far", "line", "times"] ["cell", "far", "line"] (defScope st_law_vector_2) := ⟨rfl, rfl, rfl, by decide +kernel, rfl, by decide +kernel, by decide +kernel⟩
def dd_law_vector_2 : He.DefD := ⟨("_law_vector", none), "_law_vector", "_law_vector", defArgs st_law_vector_2, defBody st_law_vector_2, defScope st_law_vector_2, [], []⟩
abbrev st_law_free_vector : Stmt := top 33
theorem sc_law_free_vector : FnScope ["cell", "far", "wide"] ["cell", "far"] (defScope st_law_free_vector) := ⟨rfl, rfl, rfl, by decide +kernel, rfl, by decide +kernel, by decide +kernel⟩
def dd_law_free_vector : He.DefD := ⟨("_law_free_vector", none), "_law_free_vector", "_law_free_vector", defArgs st_law_free_vector, defBody st_law_free_vector, defScope st_law_free_vector, [], []⟩
abbrev st_law_free_watches : Stmt := top 34
theorem sc_law_free_watches : FnScope ["script", "far", "watches", "at", "size", "first", "wind", "cell"] ["script"] (defScope st_law_free_watches) := ⟨rfl, rfl, rfl, by decide +kernel, rfl, by decide +kernel, by decide +kernel⟩
def dd_law_free_watches : He.DefD := ⟨("_law_free_watches", none), "_law_free_watches", "_law_free_watches", defArgs st_law_free_watches, defBody st_law_free_watches, defScope st_law_free_watches, [], []⟩
abbrev st_law_watches : Stmt := top 35
theorem sc_law_watches : FnScope ["script", "base", "far", "line", "most", "watches", "at", "size", "wind", "cell", "stream"] ["script"] (defScope st_law_watches) := ⟨rfl, rfl, rfl, by decide +kernel, rfl, by decide +kernel, by decide +kernel⟩
def dd_law_watches : He.DefD := ⟨("_law_watches", none), "_law_watches", "_law_watches", defArgs st_law_watches, defBody st_law_watches, defScope st_law_watches, [], []⟩
abbrev st_law_lowest_2 : Stmt := top 36
theorem sc_law_lowest_2 : FnScope ["row", "least", "number", "one", "rest"] ["row"] (defScope st_law_lowest_2) := ⟨rfl, rfl, rfl, by decide +kernel, rfl, by decide +kernel, by decide +kernel⟩
def dd_law_lowest_2 : He.DefD := ⟨("_law_lowest", none), "_law_lowest", "_law_lowest", defArgs st_law_lowest_2, defBody st_law_lowest_2, defScope st_law_lowest_2, [], []⟩
abbrev st_law_sum_2 : Stmt := top 37
theorem sc_law_sum_2 : FnScope ["one", "other"] ["one", "other"] (defScope st_law_sum_2) := ⟨rfl, rfl, rfl, by decide +kernel, rfl, by decide +kernel, by decide +kernel⟩
def dd_law_sum_2 : He.DefD := ⟨("_law_sum", none), "_law_sum", "_law_sum", defArgs st_law_sum_2, defBody st_law_sum_2, defScope st_law_sum_2, [], []⟩
abbrev st_law_same_2 : Stmt := top 38
theorem sc_law_same_2 : FnScope ["found", "due", "k"] ["found", "due"] (defScope st_law_same_2) := ⟨rfl, rfl, rfl, by decide +kernel, rfl, by decide +kernel, by decide +kernel⟩
def dd_law_same_2 : He.DefD := ⟨("_law_same", none), "_law_same", "_law_same", defArgs st_law_same_2, defBody st_law_same_2, defScope st_law_same_2, [], []⟩
abbrev st_law_parts : Stmt := top 39
theorem sc_law_parts : FnScope ["cell", "many", "bottom", "cut", "one", "two", "three", "rest", "tops", "k"] ["cell", "many", "bottom"] (defScope st_law_parts) := ⟨rfl, rfl, rfl, by decide +kernel, rfl, by decide +kernel, by decide +kernel⟩
def dd_law_parts : He.DefD := ⟨("_law_parts", none), "_law_parts", "_law_parts", defArgs st_law_parts, defBody st_law_parts, defScope st_law_parts, [], []⟩
abbrev st_law_course : Stmt := top 40
theorem sc_law_course : FnScope ["watches", "cell", "course", "k", "bottom", "tops", "j"] ["watches", "cell"] (defScope st_law_course) := ⟨rfl, rfl, rfl, by decide +kernel, rfl, by decide +kernel, by decide +kernel⟩
def dd_law_course : He.DefD := ⟨("_law_course", none), "_law_course", "_law_course", defArgs st_law_course, defBody st_law_course, defScope st_law_course, [], []⟩
abbrev st_law_add : Stmt := top 41
theorem sc_law_add : FnScope ["place", "vector", "share", "top", "x", "y"] ["place", "vector", "share"] (defScope st_law_add) := ⟨rfl, rfl, rfl, by decide +kernel, rfl, by decide +kernel, by decide +kernel⟩
def dd_law_add : He.DefD := ⟨("_law_add", none), "_law_add", "_law_add", defArgs st_law_add, defBody st_law_add, defScope st_law_add, [], []⟩
abbrev st_law_end_2 : Stmt := top 42
theorem sc_law_end_2 : FnScope ["watches", "course", "place", "k", "total", "j", "share"] ["watches", "course"] (defScope st_law_end_2) := ⟨rfl, rfl, rfl, by decide +kernel, rfl, by decide +kernel, by decide +kernel⟩
def dd_law_end_2 : He.DefD := ⟨("_law_end", none), "_law_end", "_law_end", defArgs st_law_end_2, defBody st_law_end_2, defScope st_law_end_2, [], []⟩
abbrev st_law_spoilt_shares : Stmt := top 43
theorem sc_law_spoilt_shares : FnScope ["shares", "way", "many", "heading", "share", "rest", "half"] ["shares", "way", "many"] (defScope st_law_spoilt_shares) := ⟨rfl, rfl, rfl, by decide +kernel, rfl, by decide +kernel, by decide +kernel⟩
def dd_law_spoilt_shares : He.DefD := ⟨("_law_spoilt_shares", none), "_law_spoilt_shares", "_law_spoilt_shares", defArgs st_law_spoilt_shares, defBody st_law_spoilt_shares, defScope st_law_spoilt_shares, [], []⟩
abbrev st_law_spoilt_3 : Stmt := top 44
theorem sc_law_spoilt_3 : FnScope ["watches", "course", "cell", "way", "at", "other"] ["watches", "course", "cell"] (defScope st_law_spoilt_3) := ⟨rfl, rfl, rfl, by decide +kernel, rfl, by decide +kernel, by decide +kernel⟩
def dd_law_spoilt_3 : He.DefD := ⟨("_law_spoilt", none), "_law_spoilt", "_law_spoilt", defArgs st_law_spoilt_3, defBody st_law_spoilt_3, defScope st_law_spoilt_3, [], []⟩
abbrev st_law_refused_3 : Stmt := top 45
theorem sc_law_refused_3 : FnScope ["watches", "course", "caught", "e"] ["watches", "course"] (defScope st_law_refused_3) := ⟨rfl, rfl, rfl, by decide +kernel, rfl, by decide +kernel, by decide +kernel⟩
def dd_law_refused_3 : He.DefD := ⟨("_law_refused", none), "_law_refused", "_law_refused", defArgs st_law_refused_3, defBody st_law_refused_3, defScope st_law_refused_3, [], []⟩
abbrev st_law_27 : Stmt := top 46
theorem sc_law_27 : FnScope ["script", "watches", "cell", "course", "due"] ["script"] (defScope st_law_27) := ⟨rfl, rfl, rfl, by decide +kernel, rfl, by decide +kernel, by decide +kernel⟩
def dd_law_27 : He.DefD := ⟨("law", none), "law", "law", defArgs st_law_27, defBody st_law_27, defScope st_law_27, [], []⟩
def fnK : List He.DefD := [dd_common_measure, dd_lowest, dd_added, dd_multiplied, dd_shared_measure, dd_place_lowest, dd_place_of, dd_place_added, dd_fraction_stands, dd_look_at_shares, dd_heading_times, dd_shares_end, dd_shares_sum, dd_watch_end, dd_course_end, dd_law_cell_at, dd_law_draw, dd_law_vector_2, dd_law_free_vector, dd_law_free_watches, dd_law_watches, dd_law_lowest_2, dd_law_sum_2, dd_law_same_2, dd_law_parts, dd_law_course, dd_law_add, dd_law_end_2, dd_law_spoilt_shares, dd_law_spoilt_3, dd_law_refused_3, dd_law_27]
def faK : List He.Fa := [.free "len", .free "abs", .free "max", .free "min", .free "sum", .free "all", .free "any", .free "list", .free "tuple", .free "int", .free "str", .free "isinstance", .free "range", .free "enumerate", .free "zip", .free "reversed", .free "bool", .free "sorted", .free "set", .glo "START", .glo "WHOLE", .free "ValueError", .glo "SailError", .glo "NoFraction", .glo "NoText", .glo "NoShares", .glo "NoCourse", .glo "NoWind", .glo "NoDeed", .exc "SailError", .exc "NoFraction", .exc "NoText", .exc "NoShares", .exc "NoCourse", .exc "NoWind", .exc "NoDeed", .exm "SailError" "SailError" true, .exm "SailError" "NoFraction" false, .exm "SailError" "NoText" false, .exm "SailError" "NoShares" false, .exm "SailError" "NoCourse" false, .exm "SailError" "NoWind" false, .exm "SailError" "NoDeed" false, .exm "NoFraction" "SailError" true, .exm "NoFraction" "NoFraction" true, .exm "NoFraction" "NoText" false, .exm "NoFraction" "NoShares" false, .exm "NoFraction" "NoCourse" false, .exm "NoFraction" "NoWind" false, .exm "NoFraction" "NoDeed" false, .exm "NoText" "SailError" true, .exm "NoText" "NoFraction" false, .exm "NoText" "NoText" true, .exm "NoText" "NoShares" false, .exm "NoText" "NoCourse" false, .exm "NoText" "NoWind" false, .exm "NoText" "NoDeed" false, .exm "NoShares" "SailError" true, .exm "NoShares" "NoFraction" false, .exm "NoShares" "NoText" false, .exm "NoShares" "NoShares" true, .exm "NoShares" "NoCourse" false, .exm "NoShares" "NoWind" false, .exm "NoShares" "NoDeed" false, .exm "NoCourse" "SailError" true, .exm "NoCourse" "NoFraction" false, .exm "NoCourse" "NoText" false, .exm "NoCourse" "NoShares" false, .exm "NoCourse" "NoCourse" true, .exm "NoCourse" "NoWind" false, .exm "NoCourse" "NoDeed" false, .exm "NoWind" "SailError" true, .exm "NoWind" "NoFraction" false, .exm "NoWind" "NoText" false, .exm "NoWind" "NoShares" false, .exm "NoWind" "NoCourse" false, .exm "NoWind" "NoWind" true, .exm "NoWind" "NoDeed" false, .exm "NoDeed" "SailError" true, .exm "NoDeed" "NoFraction" false, .exm "NoDeed" "NoText" false, .exm "NoDeed" "NoShares" false, .exm "NoDeed" "NoCourse" false, .exm "NoDeed" "NoWind" false, .exm "NoDeed" "NoDeed" true, .glo "common_measure", .glo "lowest", .glo "added", .glo "multiplied", .glo "shared_measure", .glo "place_lowest", .glo "place_of", .glo "place_added", .glo "fraction_stands", .glo "look_at_shares", .glo "heading_times", .glo "shares_end", .glo "shares_sum", .glo "watch_end", .glo "course_end", .glo "_law_cell_at", .glo "_law_draw", .glo "_law_vector", .glo "_law_free_vector", .glo "_law_free_watches", .glo "_law_watches", .glo "_law_lowest", .glo "_law_sum", .glo "_law_same", .glo "_law_parts", .glo "_law_course", .glo "_law_add", .glo "_law_end", .glo "_law_spoilt_shares", .glo "_law_spoilt", .glo "_law_refused", .glo "law"]
def tbK : List (Str × List Int) := [("START", [0, 0, 1]), ("WHOLE", [1, 1]), ("NoFraction", [-77]), ("NoText", [-77]), ("NoShares", [-77]), ("NoCourse", [-77]), ("NoWind", [-77]), ("NoDeed", [-77])]
def fnT : Nat → Str
  | 0 => "common_measure"
  | 1 => "lowest"
  | 8 => "added"
  | 10 => "multiplied"
  | 18 => "shared_measure"
  | 19 => "place_lowest"
  | 20 => "place_of"
  | 23 => "place_added"
  | 51 => "fraction_stands"
  | 52 => "look_at_shares"
  | 53 => "heading_times"
  | 54 => "shares_end"
  | 55 => "shares_sum"
  | 206 => "watch_end"
  | 207 => "course_end"
  | 42 => "_law_cell_at"
  | 43 => "_law_draw"
  | 44 => "_law_vector"
  | 45 => "_law_free_vector"
  | 46 => "_law_free_watches"
  | 47 => "_law_watches"
  | 80 => "_law_lowest"
  | 81 => "_law_sum"
  | 87 => "_law_same"
  | 86 => "_law_same"
  | 85 => "_law_same"
  | 84 => "_law_same"
  | 83 => "_law_same"
  | 82 => "_law_same"
  | 88 => "_law_parts"
  | 89 => "_law_course"
  | 90 => "_law_add"
  | 91 => "_law_end"
  | 208 => "_law_spoilt_shares"
  | 209 => "_law_spoilt"
  | 210 => "_law_refused"
  | 211 => "law"
  | _ => ""
def xcT : Nat → Str
  | 0 => "SailError"
  | 1 => "NoFraction"
  | 2 => "NoText"
  | 3 => "NoShares"
  | 4 => "NoCourse"
  | 5 => "NoWind"
  | 6 => "NoDeed"
  | _ => ""
def glT : Nat → Str
  | 2 => "START"
  | 3 => "WHOLE"
  | _ => ""
def TK : Tb := ⟨fnT, xcT, glT, [2, 3], [], [0, 1, 2, 3, 4, 5, 6], [1, 2, 3, 4, 5, 6], false⟩
def GK : Nat → DSp
  | 0 => sp_common_measure
  | 1 => sp_lowest
  | 8 => sp_added
  | 10 => sp_multiplied
  | 18 => sp_shared_measure
  | 19 => sp_place_lowest
  | 20 => sp_place_of
  | 23 => sp_place_added
  | 51 => sp_fraction_stands
  | 52 => sp_look_at_shares
  | 53 => sp_heading_times
  | 54 => sp_shares_end
  | 55 => sp_shares_sum
  | 206 => sp_watch_end
  | 207 => sp_course_end
  | 42 => sp_law_cell_at
  | 43 => sp_law_draw
  | 44 => sp_law_vector_2
  | 45 => sp_law_free_vector
  | 46 => sp_law_free_watches
  | 47 => sp_law_watches
  | 80 => sp_law_lowest_2
  | 81 => sp_law_sum_2
  | 87 => sp_law_same_2 5
  | 86 => sp_law_same_2 4
  | 85 => sp_law_same_2 3
  | 84 => sp_law_same_2 2
  | 83 => sp_law_same_2 1
  | 82 => sp_law_same_2 0
  | 88 => sp_law_parts
  | 89 => sp_law_course
  | 90 => sp_law_add
  | 91 => sp_law_end_2
  | 208 => sp_law_spoilt_shares
  | 209 => sp_law_spoilt_3
  | 210 => sp_law_refused_3
  | 211 => sp_law_27
  | _ => fun _ _ _ => False
theorem ck_common_measure : ckSs { TK with fns := [], nn := true } ["one", "other"] true (defScope st_common_measure) m_common_measure (defBody st_common_measure) = true := by decide +kernel
theorem ck_lowest : ckSs { TK with fns := [0], nn := true } ["top", "bottom", "part"] true (defScope st_lowest) m_lowest (defBody st_lowest) = true := by decide +kernel
theorem ck_added : ckSs { TK with fns := [1] } ["one", "other"] true (defScope st_added) m_added (defBody st_added) = true := by decide +kernel
theorem ck_multiplied : ckSs { TK with fns := [1], nn := true } ["one", "other"] true (defScope st_multiplied) m_multiplied (defBody st_multiplied) = true := by decide +kernel
theorem ck_shared_measure : ckSs { TK with fns := [], nn := true } ["numbers", "found", "number", "rest"] true (defScope st_shared_measure) m_shared_measure (defBody st_shared_measure) = true := by decide +kernel
theorem ck_place_lowest : ckSs { TK with fns := [18], nn := true } ["x", "y", "bottom", "part"] true (defScope st_place_lowest) m_place_lowest (defBody st_place_lowest) = true := by decide +kernel
theorem ck_place_of : ckSs { TK with fns := [19], nn := true } ["east", "north"] true (defScope st_place_of) m_place_of (defBody st_place_of) = true := by decide +kernel
theorem ck_place_added : ckSs { TK with fns := [19], nn := true } ["one", "other", "x", "y"] true (defScope st_place_added) m_place_added (defBody st_place_added) = true := by decide +kernel
theorem ck_fraction_stands : ckSs { TK with fns := [1], nn := true } ["pair"] true (defScope st_fraction_stands) m_fraction_stands (defBody st_fraction_stands) = true := by decide +kernel
theorem ck_look_at_shares : ckSs { TK with fns := [51], nn := true } ["wind", "shares", "last", "heading", "share"] true (defScope st_look_at_shares) m_look_at_shares (defBody st_look_at_shares) = true := by decide +kernel
theorem ck_heading_times : ckSs { TK with fns := [20, 10], nn := true } ["vector", "share"] true (defScope st_heading_times) m_heading_times (defBody st_heading_times) = true := by decide +kernel
theorem ck_shares_end : ckSs { TK with fns := [52, 23, 53], nn := true } ["wind", "shares", "end", "heading", "share"] true (defScope st_shares_end) m_shares_end (defBody st_shares_end) = true := by decide +kernel
theorem ck_shares_sum : ckSs { TK with fns := [8] } ["shares", "total", "heading", "share"] true (defScope st_shares_sum) m_shares_sum (defBody st_shares_sum) = true := by decide +kernel
theorem ck_watch_end : ckT0 { TK with fns := [55, 23] } ["watch", "shares", "place"] (defScope st_watch_end) 2 54 es_watch_end 3 4 m_watch_end (defBody st_watch_end) = true := by decide +kernel
theorem ck_course_end : ckSs { TK with fns := [23, 206] } ["watches", "course", "place", "watch", "shares"] true (defScope st_course_end) m_course_end (defBody st_course_end) = true := by decide +kernel
theorem ck_law_cell_at : ckSs { TK with fns := [] } ["script", "k"] true (defScope st_law_cell_at) m_law_cell_at (defBody st_law_cell_at) = true := by decide +kernel
theorem ck_law_draw : ckSs { TK with fns := [] } ["cell", "k", "many", "prime", "mixed"] true (defScope st_law_draw) m_law_draw (defBody st_law_draw) = true := by decide +kernel
theorem ck_law_vector_2 : ckSs { TK with fns := [43] } ["cell", "far", "line", "times"] true (defScope st_law_vector_2) m_law_vector_2 (defBody st_law_vector_2) = true := by decide +kernel
theorem ck_law_free_vector : ckSs { TK with fns := [] } ["cell", "far", "wide"] true (defScope st_law_free_vector) m_law_free_vector (defBody st_law_free_vector) = true := by decide +kernel
theorem ck_law_free_watches : ckSs { TK with fns := [45] } ["script", "far", "watches", "at", "size", "first", "wind", "cell"] true (defScope st_law_free_watches) m_law_free_watches (defBody st_law_free_watches) = true := by decide +kernel
theorem ck_law_watches : ckSs { TK with fns := [42, 46, 43, 44] } ["script", "base", "far", "line", "most", "watches", "at", "size", "wind", "cell", "stream"] true (defScope st_law_watches) m_law_watches (defBody st_law_watches) = true := by decide +kernel
theorem ck_law_lowest_2 : ckSs { TK with fns := [] } ["row", "least", "number", "one", "rest"] true (defScope st_law_lowest_2) m_law_lowest_2 (defBody st_law_lowest_2) = true := by decide +kernel
theorem ck_law_sum_2 : ckSs { TK with fns := [80] } ["one", "other"] true (defScope st_law_sum_2) m_law_sum_2 (defBody st_law_sum_2) = true := by decide +kernel
theorem ck_law_same_2_1 : ckSs { TK with fns := [82] } ["found", "due", "k"] true (defScope st_law_same_2) (m_law_same_2 82) (defBody st_law_same_2) = true := by decide +kernel
theorem ck_law_same_2_2 : ckSs { TK with fns := [83] } ["found", "due", "k"] true (defScope st_law_same_2) (m_law_same_2 83) (defBody st_law_same_2) = true := by decide +kernel
theorem ck_law_same_2_3 : ckSs { TK with fns := [84] } ["found", "due", "k"] true (defScope st_law_same_2) (m_law_same_2 84) (defBody st_law_same_2) = true := by decide +kernel
theorem ck_law_same_2_4 : ckSs { TK with fns := [85] } ["found", "due", "k"] true (defScope st_law_same_2) (m_law_same_2 85) (defBody st_law_same_2) = true := by decide +kernel
theorem ck_law_same_2_5 : ckSs { TK with fns := [86] } ["found", "due", "k"] true (defScope st_law_same_2) (m_law_same_2 86) (defBody st_law_same_2) = true := by decide +kernel
theorem ck_law_parts : ckSs { TK with fns := [43] } ["cell", "many", "bottom", "cut", "one", "two", "three", "rest", "tops", "k"] true (defScope st_law_parts) m_law_parts (defBody st_law_parts) = true := by decide +kernel
theorem ck_law_course : ckSs { TK with fns := [43, 88, 80] } ["watches", "cell", "course", "k", "bottom", "tops", "j"] true (defScope st_law_course) m_law_course (defBody st_law_course) = true := by decide +kernel
theorem ck_law_add : ckSs { TK with fns := [80] } ["place", "vector", "share", "top", "x", "y"] true (defScope st_law_add) m_law_add (defBody st_law_add) = true := by decide +kernel
theorem ck_law_end_2 : ckSs { TK with fns := [90, 81] } ["watches", "course", "place", "k", "total", "j", "share"] true (defScope st_law_end_2) m_law_end_2 (defBody st_law_end_2) = true := by decide +kernel
theorem ck_law_spoilt_shares : ckSs { TK with fns := [] } ["shares", "way", "many", "heading", "share", "rest", "half"] true (defScope st_law_spoilt_shares) m_law_spoilt_shares (defBody st_law_spoilt_shares) = true := by decide +kernel
theorem ck_law_spoilt_3 : ckSs { TK with fns := [43, 208] } ["watches", "course", "cell", "way", "at", "other"] true (defScope st_law_spoilt_3) m_law_spoilt_3 (defBody st_law_spoilt_3) = true := by decide +kernel
theorem ck_law_refused_3 : ckSs { TK with fns := [207] } ["watches", "course", "caught", "e"] true (defScope st_law_refused_3) m_law_refused_3 (defBody st_law_refused_3) = true := by decide +kernel
theorem ck_law_27 : ckSs { TK with fns := [47, 89, 91, 87, 207, 210, 209] } ["script", "watches", "cell", "course", "due"] true (defScope st_law_27) m_law_27 (defBody st_law_27) = true := by decide +kernel
section
variable {P : Program} {w : World} {K : PySem.W.Frag} {h : Heap} {mg : Str → Option Value}
theorem wdK (X : K.In h) (G : h.Ns mainGlobals mg) (c : SaysE faK fnK tbK K) : Wd P w K mg TK where
  gl := (all_cons (gl_tup X G (is := [0, 0, 1]) (c.d.fact 19 (f := .glo "START") rfl) (tbOk_tup (p := ("START", [0, 0, 1])) (c.tb _ (by first | decide | simp [tbK])) (by decide))) (all_cons (gl_tup X G (is := [1, 1]) (c.d.fact 20 (f := .glo "WHOLE") rfl) (tbOk_tup (p := ("WHOLE", [1, 1])) (c.tb _ (by first | decide | simp [tbK])) (by decide))) all_nil))
  bi := fun b => match b with | .len => He.free_ok X G (c.d.fact 0 (f := .free "len") rfl) | .abs => He.free_ok X G (c.d.fact 1 (f := .free "abs") rfl) | .max1 => He.free_ok X G (c.d.fact 2 (f := .free "max") rfl) | .min1 => He.free_ok X G (c.d.fact 3 (f := .free "min") rfl) | .max2 => He.free_ok X G (c.d.fact 2 (f := .free "max") rfl) | .min2 => He.free_ok X G (c.d.fact 3 (f := .free "min") rfl) | .sum1 => He.free_ok X G (c.d.fact 4 (f := .free "sum") rfl) | .all1 => He.free_ok X G (c.d.fact 5 (f := .free "all") rfl) | .any1 => He.free_ok X G (c.d.fact 6 (f := .free "any") rfl) | .list1 => He.free_ok X G (c.d.fact 7 (f := .free "list") rfl) | .tuple1 => He.free_ok X G (c.d.fact 8 (f := .free "tuple") rfl) | .int1 => He.free_ok X G (c.d.fact 9 (f := .free "int") rfl) | .str1 => He.free_ok X G (c.d.fact 10 (f := .free "str") rfl)
  bo := (all_cons (He.free_ok X G (c.d.fact 11 (f := .free "isinstance") rfl)) (all_cons (He.free_ok X G (c.d.fact 12 (f := .free "range") rfl)) (all_cons (He.free_ok X G (c.d.fact 13 (f := .free "enumerate") rfl)) (all_cons (He.free_ok X G (c.d.fact 14 (f := .free "zip") rfl)) (all_cons (He.free_ok X G (c.d.fact 15 (f := .free "reversed") rfl)) (all_cons (He.free_ok X G (c.d.fact 9 (f := .free "int") rfl)) (all_cons (He.free_ok X G (c.d.fact 16 (f := .free "bool") rfl)) (all_cons (He.free_ok X G (c.d.fact 10 (f := .free "str") rfl)) (all_cons (He.free_ok X G (c.d.fact 8 (f := .free "tuple") rfl)) (all_cons (He.free_ok X G (c.d.fact 7 (f := .free "list") rfl)) (all_cons (He.free_ok X G (c.d.fact 17 (f := .free "sorted") rfl)) (all_cons (He.free_ok X G (c.d.fact 18 (f := .free "set") rfl)) all_nil))))))))))))
  xa := (all_cons (He.glo_ok X G (c.d.fact 22 (f := .glo "SailError") rfl)) (all_cons (He.glo_ok X G (c.d.fact 23 (f := .glo "NoFraction") rfl)) (all_cons (He.glo_ok X G (c.d.fact 24 (f := .glo "NoText") rfl)) (all_cons (He.glo_ok X G (c.d.fact 25 (f := .glo "NoShares") rfl)) (all_cons (He.glo_ok X G (c.d.fact 26 (f := .glo "NoCourse") rfl)) (all_cons (He.glo_ok X G (c.d.fact 27 (f := .glo "NoWind") rfl)) (all_cons (He.glo_ok X G (c.d.fact 28 (f := .glo "NoDeed") rfl)) all_nil)))))))
  xe := (all_cons (He.exc_ok (c.d.fact 29 (f := .exc "SailError") rfl)) (all_cons (He.exc_ok (c.d.fact 30 (f := .exc "NoFraction") rfl)) (all_cons (He.exc_ok (c.d.fact 31 (f := .exc "NoText") rfl)) (all_cons (He.exc_ok (c.d.fact 32 (f := .exc "NoShares") rfl)) (all_cons (He.exc_ok (c.d.fact 33 (f := .exc "NoCourse") rfl)) (all_cons (He.exc_ok (c.d.fact 34 (f := .exc "NoWind") rfl)) (all_cons (He.exc_ok (c.d.fact 35 (f := .exc "NoDeed") rfl)) all_nil)))))))
  xm := (all_cons (all_cons (He.exm_ok (c.d.fact 36 (f := .exm "SailError" "SailError" true) rfl)) (all_cons (He.exm_ok (c.d.fact 37 (f := .exm "SailError" "NoFraction" false) rfl)) (all_cons (He.exm_ok (c.d.fact 38 (f := .exm "SailError" "NoText" false) rfl)) (all_cons (He.exm_ok (c.d.fact 39 (f := .exm "SailError" "NoShares" false) rfl)) (all_cons (He.exm_ok (c.d.fact 40 (f := .exm "SailError" "NoCourse" false) rfl)) (all_cons (He.exm_ok (c.d.fact 41 (f := .exm "SailError" "NoWind" false) rfl)) (all_cons (He.exm_ok (c.d.fact 42 (f := .exm "SailError" "NoDeed" false) rfl)) all_nil))))))) (all_cons (all_cons (He.exm_ok (c.d.fact 43 (f := .exm "NoFraction" "SailError" true) rfl)) (all_cons (He.exm_ok (c.d.fact 44 (f := .exm "NoFraction" "NoFraction" true) rfl)) (all_cons (He.exm_ok (c.d.fact 45 (f := .exm "NoFraction" "NoText" false) rfl)) (all_cons (He.exm_ok (c.d.fact 46 (f := .exm "NoFraction" "NoShares" false) rfl)) (all_cons (He.exm_ok (c.d.fact 47 (f := .exm "NoFraction" "NoCourse" false) rfl)) (all_cons (He.exm_ok (c.d.fact 48 (f := .exm "NoFraction" "NoWind" false) rfl)) (all_cons (He.exm_ok (c.d.fact 49 (f := .exm "NoFraction" "NoDeed" false) rfl)) all_nil))))))) (all_cons (all_cons (He.exm_ok (c.d.fact 50 (f := .exm "NoText" "SailError" true) rfl)) (all_cons (He.exm_ok (c.d.fact 51 (f := .exm "NoText" "NoFraction" false) rfl)) (all_cons (He.exm_ok (c.d.fact 52 (f := .exm "NoText" "NoText" true) rfl)) (all_cons (He.exm_ok (c.d.fact 53 (f := .exm "NoText" "NoShares" false) rfl)) (all_cons (He.exm_ok (c.d.fact 54 (f := .exm "NoText" "NoCourse" false) rfl)) (all_cons (He.exm_ok (c.d.fact 55 (f := .exm "NoText" "NoWind" false) rfl)) (all_cons (He.exm_ok (c.d.fact 56 (f := .exm "NoText" "NoDeed" false) rfl)) all_nil))))))) (all_cons (all_cons (He.exm_ok (c.d.fact 57 (f := .exm "NoShares" "SailError" true) rfl)) (all_cons (He.exm_ok (c.d.fact 58 (f := .exm "NoShares" "NoFraction" false) rfl)) (all_cons (He.exm_ok (c.d.fact 59 (f := .exm "NoShares" "NoText" false) rfl)) (all_cons (He.exm_ok (c.d.fact 60 (f := .exm "NoShares" "NoShares" true) rfl)) (all_cons (He.exm_ok (c.d.fact 61 (f := .exm "NoShares" "NoCourse" false) rfl)) (all_cons (He.exm_ok (c.d.fact 62 (f := .exm "NoShares" "NoWind" false) rfl)) (all_cons (He.exm_ok (c.d.fact 63 (f := .exm "NoShares" "NoDeed" false) rfl)) all_nil))))))) (all_cons (all_cons (He.exm_ok (c.d.fact 64 (f := .exm "NoCourse" "SailError" true) rfl)) (all_cons (He.exm_ok (c.d.fact 65 (f := .exm "NoCourse" "NoFraction" false) rfl)) (all_cons (He.exm_ok (c.d.fact 66 (f := .exm "NoCourse" "NoText" false) rfl)) (all_cons (He.exm_ok (c.d.fact 67 (f := .exm "NoCourse" "NoShares" false) rfl)) (all_cons (He.exm_ok (c.d.fact 68 (f := .exm "NoCourse" "NoCourse" true) rfl)) (all_cons (He.exm_ok (c.d.fact 69 (f := .exm "NoCourse" "NoWind" false) rfl)) (all_cons (He.exm_ok (c.d.fact 70 (f := .exm "NoCourse" "NoDeed" false) rfl)) all_nil))))))) (all_cons (all_cons (He.exm_ok (c.d.fact 71 (f := .exm "NoWind" "SailError" true) rfl)) (all_cons (He.exm_ok (c.d.fact 72 (f := .exm "NoWind" "NoFraction" false) rfl)) (all_cons (He.exm_ok (c.d.fact 73 (f := .exm "NoWind" "NoText" false) rfl)) (all_cons (He.exm_ok (c.d.fact 74 (f := .exm "NoWind" "NoShares" false) rfl)) (all_cons (He.exm_ok (c.d.fact 75 (f := .exm "NoWind" "NoCourse" false) rfl)) (all_cons (He.exm_ok (c.d.fact 76 (f := .exm "NoWind" "NoWind" true) rfl)) (all_cons (He.exm_ok (c.d.fact 77 (f := .exm "NoWind" "NoDeed" false) rfl)) all_nil))))))) (all_cons (all_cons (He.exm_ok (c.d.fact 78 (f := .exm "NoDeed" "SailError" true) rfl)) (all_cons (He.exm_ok (c.d.fact 79 (f := .exm "NoDeed" "NoFraction" false) rfl)) (all_cons (He.exm_ok (c.d.fact 80 (f := .exm "NoDeed" "NoText" false) rfl)) (all_cons (He.exm_ok (c.d.fact 81 (f := .exm "NoDeed" "NoShares" false) rfl)) (all_cons (He.exm_ok (c.d.fact 82 (f := .exm "NoDeed" "NoCourse" false) rfl)) (all_cons (He.exm_ok (c.d.fact 83 (f := .exm "NoDeed" "NoWind" false) rfl)) (all_cons (He.exm_ok (c.d.fact 84 (f := .exm "NoDeed" "NoDeed" true) rfl)) all_nil))))))) all_nil)))))))
  xi := (all_cons (xi_ok X G (T := TK) (x := "NoFraction") rfl (c.d.fact 21 (f := .free "ValueError") rfl) (c.tb ("NoFraction", [-77]) (by first | decide | simp [tbK]))) (all_cons (xi_ok X G (T := TK) (x := "NoText") rfl (c.d.fact 21 (f := .free "ValueError") rfl) (c.tb ("NoText", [-77]) (by first | decide | simp [tbK]))) (all_cons (xi_ok X G (T := TK) (x := "NoShares") rfl (c.d.fact 21 (f := .free "ValueError") rfl) (c.tb ("NoShares", [-77]) (by first | decide | simp [tbK]))) (all_cons (xi_ok X G (T := TK) (x := "NoCourse") rfl (c.d.fact 21 (f := .free "ValueError") rfl) (c.tb ("NoCourse", [-77]) (by first | decide | simp [tbK]))) (all_cons (xi_ok X G (T := TK) (x := "NoWind") rfl (c.d.fact 21 (f := .free "ValueError") rfl) (c.tb ("NoWind", [-77]) (by first | decide | simp [tbK]))) (all_cons (xi_ok X G (T := TK) (x := "NoDeed") rfl (c.d.fact 21 (f := .free "ValueError") rfl) (c.tb ("NoDeed", [-77]) (by first | decide | simp [tbK]))) all_nil))))))
theorem allK (X : K.In h) (G : h.Ns mainGlobals mg) (c : SaysE faK fnK tbK K) : ∃ fd : FuncData, (∀ (s : Shared) (v : Value), BindsTo s fd ⟨[v], []⟩ [("script", v)]) ∧ ∀ base : Heap, K.In base → base.Ns mainGlobals mg → FnOk P w K mg base (L2.CX P w) 9 (He.ga K "law") fd ["script"] (spLaw K) := by
  have wd : Wd P w K mg TK := wdK X G c
  obtain ⟨fd_common_measure, F_common_measure⟩ := c.d.def_ 0 (d := dd_common_measure) rfl
  obtain ⟨fd_lowest, F_lowest⟩ := c.d.def_ 1 (d := dd_lowest) rfl
  obtain ⟨fd_added, F_added⟩ := c.d.def_ 2 (d := dd_added) rfl
  obtain ⟨fd_multiplied, F_multiplied⟩ := c.d.def_ 3 (d := dd_multiplied) rfl
  obtain ⟨fd_shared_measure, F_shared_measure⟩ := c.d.def_ 4 (d := dd_shared_measure) rfl
  obtain ⟨fd_place_lowest, F_place_lowest⟩ := c.d.def_ 5 (d := dd_place_lowest) rfl
  obtain ⟨fd_place_of, F_place_of⟩ := c.d.def_ 6 (d := dd_place_of) rfl
  obtain ⟨fd_place_added, F_place_added⟩ := c.d.def_ 7 (d := dd_place_added) rfl
  obtain ⟨fd_fraction_stands, F_fraction_stands⟩ := c.d.def_ 8 (d := dd_fraction_stands) rfl
  obtain ⟨fd_look_at_shares, F_look_at_shares⟩ := c.d.def_ 9 (d := dd_look_at_shares) rfl
  obtain ⟨fd_heading_times, F_heading_times⟩ := c.d.def_ 10 (d := dd_heading_times) rfl
  obtain ⟨fd_shares_end, F_shares_end⟩ := c.d.def_ 11 (d := dd_shares_end) rfl
  obtain ⟨fd_shares_sum, F_shares_sum⟩ := c.d.def_ 12 (d := dd_shares_sum) rfl
  obtain ⟨fd_watch_end, F_watch_end⟩ := c.d.def_ 13 (d := dd_watch_end) rfl
  obtain ⟨fd_course_end, F_course_end⟩ := c.d.def_ 14 (d := dd_course_end) rfl
  obtain ⟨fd_law_cell_at, F_law_cell_at⟩ := c.d.def_ 15 (d := dd_law_cell_at) rfl
  obtain ⟨fd_law_draw, F_law_draw⟩ := c.d.def_ 16 (d := dd_law_draw) rfl
  obtain ⟨fd_law_vector_2, F_law_vector_2⟩ := c.d.def_ 17 (d := dd_law_vector_2) rfl
  obtain ⟨fd_law_free_vector, F_law_free_vector⟩ := c.d.def_ 18 (d := dd_law_free_vector) rfl
  obtain ⟨fd_law_free_watches, F_law_free_watches⟩ := c.d.def_ 19 (d := dd_law_free_watches) rfl
  obtain ⟨fd_law_watches, F_law_watches⟩ := c.d.def_ 20 (d := dd_law_watches) rfl
  obtain ⟨fd_law_lowest_2, F_law_lowest_2⟩ := c.d.def_ 21 (d := dd_law_lowest_2) rfl
  obtain ⟨fd_law_sum_2, F_law_sum_2⟩ := c.d.def_ 22 (d := dd_law_sum_2) rfl
  obtain ⟨fd_law_same_2, F_law_same_2⟩ := c.d.def_ 23 (d := dd_law_same_2) rfl
  obtain ⟨fd_law_parts, F_law_parts⟩ := c.d.def_ 24 (d := dd_law_parts) rfl
  obtain ⟨fd_law_course, F_law_course⟩ := c.d.def_ 25 (d := dd_law_course) rfl
  obtain ⟨fd_law_add, F_law_add⟩ := c.d.def_ 26 (d := dd_law_add) rfl
  obtain ⟨fd_law_end_2, F_law_end_2⟩ := c.d.def_ 27 (d := dd_law_end_2) rfl
  obtain ⟨fd_law_spoilt_shares, F_law_spoilt_shares⟩ := c.d.def_ 28 (d := dd_law_spoilt_shares) rfl
  obtain ⟨fd_law_spoilt_3, F_law_spoilt_3⟩ := c.d.def_ 29 (d := dd_law_spoilt_3) rfl
  obtain ⟨fd_law_refused_3, F_law_refused_3⟩ := c.d.def_ 30 (d := dd_law_refused_3) rfl
  obtain ⟨fd_law_27, F_law_27⟩ := c.d.def_ 31 (d := dd_law_27) rfl
  refine ⟨fd_law_27, fun s v => FunD.bindsA (ps := ["script"]) F_law_27 (fun _ _ _ _ _ _ us hl => match us, hl with | [_], _ => rfl) s [v] rfl, fun base _ _ => ?_⟩
  have oN_common_measure : FnN P w K mg base TK GK 1 0 := def_okN (ps := ["one", "other"]) wd F_common_measure (He.glo_ok X G (c.d.fact 85 (f := .glo "common_measure") rfl)) sc_common_measure (F_common_measure.bindsN fun _ _ _ _ _ _ us hl => match us, hl with | [_, _], _ => rfl) all_nil ck_common_measure (p_common_measure)
  have o_common_measure := oN_common_measure.to
  have oN_lowest : FnN P w K mg base TK GK 2 1 := def_okN (ps := ["top", "bottom"]) wd F_lowest (He.glo_ok X G (c.d.fact 86 (f := .glo "lowest") rfl)) sc_lowest (F_lowest.bindsN fun _ _ _ _ _ _ us hl => match us, hl with | [_, _], _ => rfl) (all_cons (oN_common_measure.mono (by decide)) all_nil) ck_lowest (p_lowest rfl)
  have o_lowest := oN_lowest.to
  have o_added : FnP P w K mg base TK GK 3 8 := def_ok (ps := ["one", "other"]) wd F_added (He.glo_ok X G (c.d.fact 87 (f := .glo "added") rfl)) sc_added (F_added.bindsN fun _ _ _ _ _ _ us hl => match us, hl with | [_, _], _ => rfl) (all_cons (o_lowest.mono (by decide)) all_nil) ck_added (p_added rfl)
  have oN_multiplied : FnN P w K mg base TK GK 3 10 := def_okN (ps := ["one", "other"]) wd F_multiplied (He.glo_ok X G (c.d.fact 88 (f := .glo "multiplied") rfl)) sc_multiplied (F_multiplied.bindsN fun _ _ _ _ _ _ us hl => match us, hl with | [_, _], _ => rfl) (all_cons (oN_lowest.mono (by decide)) all_nil) ck_multiplied (p_multiplied rfl)
  have o_multiplied := oN_multiplied.to
  have oN_shared_measure : FnN P w K mg base TK GK 1 18 := def_okN (ps := ["numbers"]) wd F_shared_measure (He.glo_ok X G (c.d.fact 89 (f := .glo "shared_measure") rfl)) sc_shared_measure (F_shared_measure.bindsN fun _ _ _ _ _ _ us hl => match us, hl with | [_], _ => rfl) all_nil ck_shared_measure (p_shared_measure)
  have o_shared_measure := oN_shared_measure.to
  have oN_place_lowest : FnN P w K mg base TK GK 2 19 := def_okN (ps := ["x", "y", "bottom"]) wd F_place_lowest (He.glo_ok X G (c.d.fact 90 (f := .glo "place_lowest") rfl)) sc_place_lowest (F_place_lowest.bindsN fun _ _ _ _ _ _ us hl => match us, hl with | [_, _, _], _ => rfl) (all_cons (oN_shared_measure.mono (by decide)) all_nil) ck_place_lowest (p_place_lowest rfl)
  have o_place_lowest := oN_place_lowest.to
  have oN_place_of : FnN P w K mg base TK GK 3 20 := def_okN (ps := ["east", "north"]) wd F_place_of (He.glo_ok X G (c.d.fact 91 (f := .glo "place_of") rfl)) sc_place_of (F_place_of.bindsN fun _ _ _ _ _ _ us hl => match us, hl with | [_, _], _ => rfl) (all_cons (oN_place_lowest.mono (by decide)) all_nil) ck_place_of (p_place_of rfl)
  have o_place_of := oN_place_of.to
  have oN_place_added : FnN P w K mg base TK GK 3 23 := def_okN (ps := ["one", "other"]) wd F_place_added (He.glo_ok X G (c.d.fact 92 (f := .glo "place_added") rfl)) sc_place_added (F_place_added.bindsN fun _ _ _ _ _ _ us hl => match us, hl with | [_, _], _ => rfl) (all_cons (oN_place_lowest.mono (by decide)) all_nil) ck_place_added (p_place_added rfl)
  have o_place_added := oN_place_added.to
  have oN_fraction_stands : FnN P w K mg base TK GK 3 51 := def_okN (ps := ["pair"]) wd F_fraction_stands (He.glo_ok X G (c.d.fact 93 (f := .glo "fraction_stands") rfl)) sc_fraction_stands (F_fraction_stands.bindsN fun _ _ _ _ _ _ us hl => match us, hl with | [_], _ => rfl) (all_cons (oN_lowest.mono (by decide)) all_nil) ck_fraction_stands (p_fraction_stands rfl)
  have o_fraction_stands := oN_fraction_stands.to
  have oN_look_at_shares : FnN P w K mg base TK GK 4 52 := def_okN (ps := ["wind", "shares"]) wd F_look_at_shares (He.glo_ok X G (c.d.fact 94 (f := .glo "look_at_shares") rfl)) sc_look_at_shares (F_look_at_shares.bindsN fun _ _ _ _ _ _ us hl => match us, hl with | [_, _], _ => rfl) (all_cons (oN_fraction_stands.mono (by decide)) all_nil) ck_look_at_shares (p_look_at_shares rfl)
  have o_look_at_shares := oN_look_at_shares.to
  have oN_heading_times : FnN P w K mg base TK GK 4 53 := def_okN (ps := ["vector", "share"]) wd F_heading_times (He.glo_ok X G (c.d.fact 95 (f := .glo "heading_times") rfl)) sc_heading_times (F_heading_times.bindsN fun _ _ _ _ _ _ us hl => match us, hl with | [_, _], _ => rfl) (all_cons (oN_place_of.mono (by decide)) (all_cons (oN_multiplied.mono (by decide)) all_nil)) ck_heading_times (p_heading_times rfl rfl)
  have o_heading_times := oN_heading_times.to
  have oN_shares_end : FnN P w K mg base TK GK 5 54 := def_okN (ps := ["wind", "shares"]) wd F_shares_end (He.glo_ok X G (c.d.fact 96 (f := .glo "shares_end") rfl)) sc_shares_end (F_shares_end.bindsN fun _ _ _ _ _ _ us hl => match us, hl with | [_, _], _ => rfl) (all_cons (oN_look_at_shares.mono (by decide)) (all_cons (oN_place_added.mono (by decide)) (all_cons (oN_heading_times.mono (by decide)) all_nil))) ck_shares_end (p_shares_end rfl rfl rfl)
  have o_shares_end := oN_shares_end.to
  have o_shares_sum : FnP P w K mg base TK GK 4 55 := def_ok (ps := ["shares"]) wd F_shares_sum (He.glo_ok X G (c.d.fact 97 (f := .glo "shares_sum") rfl)) sc_shares_sum (F_shares_sum.bindsN fun _ _ _ _ _ _ us hl => match us, hl with | [_], _ => rfl) (all_cons (o_added.mono (by decide)) all_nil) ck_shares_sum (p_shares_sum rfl)
  have o_watch_end : FnP P w K mg base TK GK 6 206 := def_okT (ps := ["watch", "shares"]) wd F_watch_end (He.glo_ok X G (c.d.fact 98 (f := .glo "watch_end") rfl)) sc_watch_end (F_watch_end.bindsN fun _ _ _ _ _ _ us hl => match us, hl with | [_, _], _ => rfl) (oN_shares_end.mono (by decide)) (all_cons (o_shares_sum.mono (by decide)) (all_cons (o_place_added.mono (by decide)) all_nil)) ck_watch_end (p_watch_end rfl rfl rfl)
  have o_course_end : FnP P w K mg base TK GK 7 207 := def_ok (ps := ["watches", "course"]) wd F_course_end (He.glo_ok X G (c.d.fact 99 (f := .glo "course_end") rfl)) sc_course_end (F_course_end.bindsN fun _ _ _ _ _ _ us hl => match us, hl with | [_, _], _ => rfl) (all_cons (o_place_added.mono (by decide)) (all_cons (o_watch_end.mono (by decide)) all_nil)) ck_course_end (p_course_end rfl rfl)
  have o_law_cell_at : FnP P w K mg base TK GK 1 42 := def_ok (ps := ["script", "k"]) wd F_law_cell_at (He.glo_ok X G (c.d.fact 100 (f := .glo "_law_cell_at") rfl)) sc_law_cell_at (F_law_cell_at.bindsN fun _ _ _ _ _ _ us hl => match us, hl with | [_, _], _ => rfl) all_nil ck_law_cell_at (p_law_cell_at)
  have o_law_draw : FnP P w K mg base TK GK 1 43 := def_ok (ps := ["cell", "k", "many"]) wd F_law_draw (He.glo_ok X G (c.d.fact 101 (f := .glo "_law_draw") rfl)) sc_law_draw (F_law_draw.bindsN fun _ _ _ _ _ _ us hl => match us, hl with | [_, _, _], _ => rfl) all_nil ck_law_draw (p_law_draw)
  have o_law_vector_2 : FnP P w K mg base TK GK 2 44 := def_ok (ps := ["cell", "far", "line"]) wd F_law_vector_2 (He.glo_ok X G (c.d.fact 102 (f := .glo "_law_vector") rfl)) sc_law_vector_2 (F_law_vector_2.bindsN fun _ _ _ _ _ _ us hl => match us, hl with | [_, _, _], _ => rfl) (all_cons (o_law_draw.mono (by decide)) all_nil) ck_law_vector_2 (p_law_vector_2 rfl)
  have o_law_free_vector : FnP P w K mg base TK GK 1 45 := def_ok (ps := ["cell", "far"]) wd F_law_free_vector (He.glo_ok X G (c.d.fact 103 (f := .glo "_law_free_vector") rfl)) sc_law_free_vector (F_law_free_vector.bindsN fun _ _ _ _ _ _ us hl => match us, hl with | [_, _], _ => rfl) all_nil ck_law_free_vector (p_law_free_vector)
  have o_law_free_watches : FnP P w K mg base TK GK 2 46 := def_ok (ps := ["script"]) wd F_law_free_watches (He.glo_ok X G (c.d.fact 104 (f := .glo "_law_free_watches") rfl)) sc_law_free_watches (F_law_free_watches.bindsN fun _ _ _ _ _ _ us hl => match us, hl with | [_], _ => rfl) (all_cons (o_law_free_vector.mono (by decide)) all_nil) ck_law_free_watches (p_law_free_watches rfl)
  have o_law_watches : FnP P w K mg base TK GK 3 47 := def_ok (ps := ["script"]) wd F_law_watches (He.glo_ok X G (c.d.fact 105 (f := .glo "_law_watches") rfl)) sc_law_watches (F_law_watches.bindsN fun _ _ _ _ _ _ us hl => match us, hl with | [_], _ => rfl) (all_cons (o_law_cell_at.mono (by decide)) (all_cons (o_law_free_watches.mono (by decide)) (all_cons (o_law_draw.mono (by decide)) (all_cons (o_law_vector_2.mono (by decide)) all_nil)))) ck_law_watches (p_law_watches rfl rfl rfl rfl)
  have o_law_lowest_2 : FnP P w K mg base TK GK 1 80 := def_ok (ps := ["row"]) wd F_law_lowest_2 (He.glo_ok X G (c.d.fact 106 (f := .glo "_law_lowest") rfl)) sc_law_lowest_2 (F_law_lowest_2.bindsN fun _ _ _ _ _ _ us hl => match us, hl with | [_], _ => rfl) all_nil ck_law_lowest_2 (p_law_lowest_2)
  have o_law_sum_2 : FnP P w K mg base TK GK 2 81 := def_ok (ps := ["one", "other"]) wd F_law_sum_2 (He.glo_ok X G (c.d.fact 107 (f := .glo "_law_sum") rfl)) sc_law_sum_2 (F_law_sum_2.bindsN fun _ _ _ _ _ _ us hl => match us, hl with | [_, _], _ => rfl) (all_cons (o_law_lowest_2.mono (by decide)) all_nil) ck_law_sum_2 (p_law_sum_2 rfl)
  have o_law_same_2_0 : FnP P w K mg base TK GK 1 82 := def_no (ps := ["found", "due"]) F_law_same_2 (He.glo_ok X G (c.d.fact 108 (f := .glo "_law_same") rfl)) sc_law_same_2 (F_law_same_2.bindsN fun _ _ _ _ _ _ us hl => match us, hl with | [_, _], _ => rfl) no_law_same_2
  have o_law_same_2_1 : FnP P w K mg base TK GK 2 83 := def_ok (ps := ["found", "due"]) wd F_law_same_2 (He.glo_ok X G (c.d.fact 108 (f := .glo "_law_same") rfl)) sc_law_same_2 (F_law_same_2.bindsN fun _ _ _ _ _ _ us hl => match us, hl with | [_, _], _ => rfl) (all_cons (o_law_same_2_0.mono (by decide)) all_nil) ck_law_same_2_1 (p_law_same_2 rfl)
  have o_law_same_2_2 : FnP P w K mg base TK GK 3 84 := def_ok (ps := ["found", "due"]) wd F_law_same_2 (He.glo_ok X G (c.d.fact 108 (f := .glo "_law_same") rfl)) sc_law_same_2 (F_law_same_2.bindsN fun _ _ _ _ _ _ us hl => match us, hl with | [_, _], _ => rfl) (all_cons (o_law_same_2_1.mono (by decide)) all_nil) ck_law_same_2_2 (p_law_same_2 rfl)
  have o_law_same_2_3 : FnP P w K mg base TK GK 4 85 := def_ok (ps := ["found", "due"]) wd F_law_same_2 (He.glo_ok X G (c.d.fact 108 (f := .glo "_law_same") rfl)) sc_law_same_2 (F_law_same_2.bindsN fun _ _ _ _ _ _ us hl => match us, hl with | [_, _], _ => rfl) (all_cons (o_law_same_2_2.mono (by decide)) all_nil) ck_law_same_2_3 (p_law_same_2 rfl)
  have o_law_same_2_4 : FnP P w K mg base TK GK 5 86 := def_ok (ps := ["found", "due"]) wd F_law_same_2 (He.glo_ok X G (c.d.fact 108 (f := .glo "_law_same") rfl)) sc_law_same_2 (F_law_same_2.bindsN fun _ _ _ _ _ _ us hl => match us, hl with | [_, _], _ => rfl) (all_cons (o_law_same_2_3.mono (by decide)) all_nil) ck_law_same_2_4 (p_law_same_2 rfl)
  have o_law_same_2_5 : FnP P w K mg base TK GK 6 87 := def_ok (ps := ["found", "due"]) wd F_law_same_2 (He.glo_ok X G (c.d.fact 108 (f := .glo "_law_same") rfl)) sc_law_same_2 (F_law_same_2.bindsN fun _ _ _ _ _ _ us hl => match us, hl with | [_, _], _ => rfl) (all_cons (o_law_same_2_4.mono (by decide)) all_nil) ck_law_same_2_5 (p_law_same_2 rfl)
  have o_law_same_2 := o_law_same_2_5
  have o_law_parts : FnP P w K mg base TK GK 2 88 := def_ok (ps := ["cell", "many", "bottom"]) wd F_law_parts (He.glo_ok X G (c.d.fact 109 (f := .glo "_law_parts") rfl)) sc_law_parts (F_law_parts.bindsN fun _ _ _ _ _ _ us hl => match us, hl with | [_, _, _], _ => rfl) (all_cons (o_law_draw.mono (by decide)) all_nil) ck_law_parts (p_law_parts rfl)
  have o_law_course : FnP P w K mg base TK GK 3 89 := def_ok (ps := ["watches", "cell"]) wd F_law_course (He.glo_ok X G (c.d.fact 110 (f := .glo "_law_course") rfl)) sc_law_course (F_law_course.bindsN fun _ _ _ _ _ _ us hl => match us, hl with | [_, _], _ => rfl) (all_cons (o_law_draw.mono (by decide)) (all_cons (o_law_parts.mono (by decide)) (all_cons (o_law_lowest_2.mono (by decide)) all_nil))) ck_law_course (p_law_course rfl rfl rfl)
  have o_law_add : FnP P w K mg base TK GK 2 90 := def_ok (ps := ["place", "vector", "share"]) wd F_law_add (He.glo_ok X G (c.d.fact 111 (f := .glo "_law_add") rfl)) sc_law_add (F_law_add.bindsN fun _ _ _ _ _ _ us hl => match us, hl with | [_, _, _], _ => rfl) (all_cons (o_law_lowest_2.mono (by decide)) all_nil) ck_law_add (p_law_add rfl)
  have o_law_end_2 : FnP P w K mg base TK GK 3 91 := def_ok (ps := ["watches", "course"]) wd F_law_end_2 (He.glo_ok X G (c.d.fact 112 (f := .glo "_law_end") rfl)) sc_law_end_2 (F_law_end_2.bindsN fun _ _ _ _ _ _ us hl => match us, hl with | [_, _], _ => rfl) (all_cons (o_law_add.mono (by decide)) (all_cons (o_law_sum_2.mono (by decide)) all_nil)) ck_law_end_2 (p_law_end_2 rfl rfl)
  have o_law_spoilt_shares : FnP P w K mg base TK GK 1 208 := def_ok (ps := ["shares", "way", "many"]) wd F_law_spoilt_shares (He.glo_ok X G (c.d.fact 113 (f := .glo "_law_spoilt_shares") rfl)) sc_law_spoilt_shares (F_law_spoilt_shares.bindsN fun _ _ _ _ _ _ us hl => match us, hl with | [_, _, _], _ => rfl) all_nil ck_law_spoilt_shares (p_law_spoilt_shares)
  have o_law_spoilt_3 : FnP P w K mg base TK GK 2 209 := def_ok (ps := ["watches", "course", "cell"]) wd F_law_spoilt_3 (He.glo_ok X G (c.d.fact 114 (f := .glo "_law_spoilt") rfl)) sc_law_spoilt_3 (F_law_spoilt_3.bindsN fun _ _ _ _ _ _ us hl => match us, hl with | [_, _, _], _ => rfl) (all_cons (o_law_draw.mono (by decide)) (all_cons (o_law_spoilt_shares.mono (by decide)) all_nil)) ck_law_spoilt_3 (p_law_spoilt_3 rfl rfl)
  have o_law_refused_3 : FnP P w K mg base TK GK 8 210 := def_ok (ps := ["watches", "course"]) wd F_law_refused_3 (He.glo_ok X G (c.d.fact 115 (f := .glo "_law_refused") rfl)) sc_law_refused_3 (F_law_refused_3.bindsN fun _ _ _ _ _ _ us hl => match us, hl with | [_, _], _ => rfl) (all_cons (o_course_end.mono (by decide)) all_nil) ck_law_refused_3 (p_law_refused_3 rfl)
  have ol := def_okF (f := 211) (G := GK) (base := base) (P := P) (w := w) (ps := ["script"]) (k := 8) wd F_law_27 sc_law_27 (all_cons (o_law_watches.mono (by decide)) (all_cons (o_law_course.mono (by decide)) (all_cons (o_law_end_2.mono (by decide)) (all_cons (o_law_same_2.mono (by decide)) (all_cons (o_course_end.mono (by decide)) (all_cons (o_law_refused_3.mono (by decide)) (all_cons (o_law_spoilt_3.mono (by decide)) all_nil))))))) ck_law_27 (p_law_27 rfl rfl rfl rfl rfl rfl rfl)
  exact law_end (f := 211) (G := GK) c.nl (fun ns hn Q X q => ⟨ns, rfl, hn, q⟩) ol
end
theorem law_fact {K : PySem.W.Frag} (c : SaysE faK fnK tbK K) : (He.Fa.glo "law").ok K = true := c.d.fact 116 (f := .glo "law") rfl
abbrev RK : PySem.W.OpenRow := PySem.W.OpenLaw.row PySem.Challenge.rw_closehaul_k25_where_courses_lead
def nm0 : List Str := ["SailError", "NoFraction", "NoText", "NoShares", "NoCourse", "NoWind", "NoDeed", "START", "WHOLE", "common_measure", "lowest", "added", "multiplied", "shared_measure", "place_lowest", "place_of", "place_added", "fraction_stands", "look_at_shares", "heading_times", "shares_end", "shares_sum", "watch_end", "course_end", "_law_cell_at", "_law_draw", "_law_vector", "_law_free_vector", "_law_free_watches", "_law_watches"]
def nm1 : List Str := ["_law_lowest", "_law_sum", "_law_same", "_law_parts", "_law_course", "_law_add", "_law_end", "_law_spoilt_shares", "_law_spoilt", "_law_refused"]
def nmK : List Str := nm0 ++ nm1
abbrev hkK : PySem.W.Hook := hookE 4 faK fnK tbK
def obK (s : PySem.W.SharedT) : He.AlD × Bool := obsEG 4 faK fnK tbK (HandSHeadRun.getT s)
theorem obK_eq (s : PySem.W.SharedT) : obK s = hkK.obs s.abs := obsEG_eq (HandSHeadRun.getT_eq s)
theorem runK (w : World) : HandSHeadRun.RunEq RK (PySem.W.view RK.prog [46]) hkK obK 6000 nmK w := by
  intro os
  kernel_rfl
end DL
end
open PySem PySem.W PySem.Calls PyProof.Rows
set_option maxRecDepth 100000 in
set_option maxHeartbeats 0 in
theorem PySem.Challenge.cw_closehaul_k25_where_courses_lead_holds : PySem.Challenge.rw_closehaul_k25_where_courses_lead.Holds := by
  w_on; o_law
  refine HandSHeadRun.head_any (r := OpenLaw.row PySem.Challenge.rw_closehaul_k25_where_courses_lead) (q := view (OpenLaw.row PySem.Challenge.rw_closehaul_k25_where_courses_lead).prog [46]) (H := DL.hkK) (ob := DL.obK) (M := 6000) (loose := DL.nmK) (d := HandSHeadRun.topDef (OpenLaw.row PySem.Challenge.rw_closehaul_k25_where_courses_lead).prog 46) (kwd := []) DL.obK_eq
    (by kernel_rfl) (fun s => by kernel_rfl) DL.runK (by kernel_rfl) (by kernel_rfl) (by kernel_rfl) (by rfl) (by first | assumption | decide +kernel) (by decide +kernel) ⟨rfl, rfl, rfl, rfl, rfl, by decide +kernel⟩ ?hw ?hc
  case hw => w_witness2
  case hc =>
    refine DL.walk_w (l := PySem.Challenge.rw_closehaul_k25_where_courses_lead) (k := 9) (x := "script") rfl (by kernel_rfl) ⟨rfl, by decide, by decide⟩ ?F
    case F =>
      intro w mg fa h Y G em
      obtain ⟨K, KX, c⟩ := Y
      have e : (HandSHeadRun.topDef (OpenLaw.row PySem.Challenge.rw_closehaul_k25_where_courses_lead).prog 46).name = ("law" : PySem.Str) := by kernel_rfl
      rw [e] at em
      cases em.symm.trans (He.glo_ok KX G (DL.law_fact c))
      obtain ⟨fd, hb, hF⟩ := DL.allK (P := (PySem.Challenge.rw_closehaul_k25_where_courses_lead).prog) (w := w) KX G c
      exact ⟨K, fd, KX, hb, hF⟩
