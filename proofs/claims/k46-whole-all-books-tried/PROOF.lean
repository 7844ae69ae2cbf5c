import PyProof.Rows.All
import Wide.All
import OpenK.AllK
import Wide.FinOn
import HandS.ForMost
import HandS.TupAny
import HandS.Conv
import HandS.IsInst
import HandS.Zip
import HandS.Walk
import HandS.Deep
import HandS.Defaults
import HandS.HeadHook1
import PySem.Challenge.RW_holdfills_k46_whole_all_books_tried
import KE.GoesEnum
import HandS.TupMul
import HandS.Style
import HandS.SortKw
import KE.DatumOrd
import KE.KExcSuper
import KE.KExcRaise
import HandS.Exc
import HandS.ExcOwn
import HandS.TryMany
import HandS.ExcField
import HandS.ExcIs
import HandS.Lambda
import KE.KIsAll
import PyProof.ReprRoads
import PyProof.FitsInt
import HandS.HeadHook4
import HandS.Dict
import KE.KStateDown
import HandS.Head0
import HandS.Head1
import HandS.Head2
import HandS.HeadEnd
import HandS.HeadHook2
import HandS.HeadHook3
import HandS.HeadWalk
import HandS.EndTab
set_option Elab.async false
set_option linter.all false
set_option maxRecDepth 100000
/-! THE FRAME: what a piece of text does to data. Universal readings (wE ..), slots with kinds (Cn), what holds of them (Sd), judgements of expressions (EK), tests (TK), arguments (AK), statements (SK, SKs), walked things (IK). -/
namespace L2
open PySem PySem.Spec PyProof.Rows
section
variable {K : PySem.W.Frag} {H H' : Hp}
theorem DpAll.length : ∀ {vs : List V} {ds : List PyData}, DpAll K H vs ds → vs.length = ds.length
  | _, _, .nil => rfl
  | _, _, .cons _ h => congrArg Nat.succ (DpAll.length h)
theorem DpAll.get : ∀ {vs : List V} {ds : List PyData} {i : Nat} {d : PyData}, DpAll K H vs ds → ds[i]? = some d → ∃ v, vs[i]? = some v ∧ Dp K H v d
  | _, _, _, _, .nil, e => by simp at e
  | _, _, 0, d, .cons (v := v) h1 _, e => by
    have e' : _ = d := Option.some.inj (by simpa using e)
    exact ⟨v, rfl, e' ▸ h1⟩
  | _, _, i + 1, d, .cons _ h2, e => by
    obtain ⟨v, a, b⟩ := DpAll.get (i := i) h2 (by simpa using e)
    exact ⟨v, by simpa using a, b⟩
theorem DpAll.getV : ∀ {vs : List V} {ds : List PyData} {i : Nat} {v : V}, DpAll K H vs ds → vs[i]? = some v → ∃ d, ds[i]? = some d ∧ Dp K H v d
  | _, _, _, _, .nil, e => by simp at e
  | _, _, 0, v, .cons (d := d) h1 _, e => by
    have e' : _ = v := Option.some.inj (by simpa using e)
    exact ⟨d, rfl, e' ▸ h1⟩
  | _, _, i + 1, v, .cons _ h2, e => by
    obtain ⟨d, a, b⟩ := DpAll.getV (i := i) h2 (by simpa using e)
    exact ⟨d, by simpa using a, b⟩
theorem DpAll.append : ∀ {vs ws : List V} {ds es : List PyData}, DpAll K H vs ds → DpAll K H ws es → DpAll K H (vs ++ ws) (ds ++ es)
  | _, _, _, _, .nil, s => s
  | _, _, _, _, .cons r t, s => .cons r (DpAll.append t s)
theorem DpAll.take : ∀ {vs : List V} {ds : List PyData} (n : Nat), DpAll K H vs ds → DpAll K H (vs.take n) (ds.take n)
  | _, _, 0, _ => .nil
  | _, _, _ + 1, .nil => .nil
  | _, _, n + 1, .cons r t => .cons r (DpAll.take n t)
theorem DpAll.drop : ∀ {vs : List V} {ds : List PyData} (n : Nat), DpAll K H vs ds → DpAll K H (vs.drop n) (ds.drop n)
  | _, _, 0, r => r
  | _, _, _ + 1, .nil => .nil
  | _, _, n + 1, .cons _ t => DpAll.drop n t
theorem DpAll.ints : ∀ {vs : List V} {ns : List Int}, DpAll K H vs (ns.map PyData.int) → vs = ns.map V.int
  | _, [], .nil => rfl
  | _, n :: ns, .cons h1 h2 => by
    cases h1
    rw [DpAll.ints h2]
    rfl
theorem DpAll.of_ints : ∀ (ns : List Int), DpAll K H (ns.map V.int) (ns.map PyData.int)
  | [] => .nil
  | n :: ns => .cons (.int n) (DpAll.of_ints ns)
theorem Dp.int_inv {v : V} {i : Int} (h : Dp K H v (.int i)) : v = .int i := by
  cases h
  rfl
theorem Dp.bool_inv {v : V} {b : Bool} (h : Dp K H v (.bool b)) : v = .bl b := by
  cases h
  rfl
theorem Dp.str_inv {v : V} {x : Str} (h : Dp K H v (.str x)) : v = .str x := by
  cases h
  rfl
theorem Dp.none_inv {v : V} (h : Dp K H v .none) : v = .non := by
  cases h
  rfl
theorem Dp.tup_inv {v : V} {ds : List PyData} (h : Dp K H v (.tuple ds)) : ∃ a xs, v = .ref a ∧ SqT K H a xs ∧ DpAll K H xs ds := by
  cases h with
  | tup hq ha => exact ⟨_, _, rfl, hq, ha⟩
theorem Dp.lst_inv {v : V} {ds : List PyData} (h : Dp K H v (.list ds)) : ∃ a xs, v = .ref a ∧ SqL K H a xs ∧ DpAll K H xs ds := by
  cases h with
  | lst hq ha => exact ⟨_, _, rfl, hq, ha⟩
end
end L2
namespace Bk
open PySem PySem.Spec PyProof.Rows L2

/-! ### data that never changes -/
mutual
def imm : PyData → Bool
  | .list _ => false
  | .dict _ => false
  | .tuple ds => immAll ds
  | .none => true
  | .bool _ => true
  | .int _ => true
  | .str _ => true
def immAll : List PyData → Bool
  | [] => true
  | d :: ds => imm d && immAll ds
end
theorem imm_tuple {ds : List PyData} (h : immAll ds = true) : imm (.tuple ds) = true := by
  simpa only [imm] using h
theorem imm_int (i : Int) : imm (.int i) = true := by simp only [imm]
theorem imm_bool (b : Bool) : imm (.bool b) = true := by simp only [imm]
theorem imm_str (x : Str) : imm (.str x) = true := by simp only [imm]
theorem imm_none : imm .none = true := by simp only [imm]
theorem immAll_nil : immAll [] = true := by simp only [immAll]
theorem immAll_cons {d : PyData} {ds : List PyData} (h : imm d = true) (hs : immAll ds = true) : immAll (d :: ds) = true := by
  simp only [immAll, h, hs, Bool.and_self]
theorem immAll_iff {ds : List PyData} : immAll ds = true ↔ ∀ d ∈ ds, imm d = true := by
  induction ds with
  | nil => simp [immAll]
  | cons d ds ih => simp [immAll, ih]
theorem immAll_append {ds es : List PyData} (h : immAll ds = true) (hs : immAll es = true) : immAll (ds ++ es) = true :=
  immAll_iff.mpr fun d hd => (List.mem_append.mp hd).elim (immAll_iff.mp h d) (immAll_iff.mp hs d)
theorem immAll_map {α : Type} {f : α → PyData} {l : List α} (h : ∀ a ∈ l, imm (f a) = true) : immAll (l.map f) = true :=
  immAll_iff.mpr fun d hd => by
    obtain ⟨a, ha, e⟩ := List.mem_map.mp hd
    exact e ▸ h a ha
theorem imm_of_tuple {ds : List PyData} (h : imm (.tuple ds) = true) : immAll ds = true := by
  simpa only [imm] using h
theorem imm_get {ds : List PyData} {i : Nat} {d : PyData} (h : immAll ds = true) (e : ds[i]? = some d) : imm d = true := immAll_iff.mp h d (List.mem_of_getElem? e)

/-! ### tuples stay -/
def Tst (K : PySem.W.Frag) (H H' : Hp) : Prop := ∀ a xs, SqT K H a xs → SqT K H' a xs
theorem Tst.refl {K : PySem.W.Frag} {H : Hp} : Tst K H H := fun _ _ h => h
theorem Tst.trans {K : PySem.W.Frag} {H H1 H2 : Hp} (a : Tst K H H1) (b : Tst K H1 H2) : Tst K H H2 := fun p xs h => b p xs (a p xs h)
theorem Tst.same {K : PySem.W.Frag} {H H' : Hp} (e : Same H H') : Tst K H H' := fun a xs h => by
  rcases h with (h | ⟨o, h⟩) | h
  · exact .inl (.inl (e _ _ h))
  · exact .inl (.inr ⟨o, e _ _ h⟩)
  · exact .inr h
/-- a list of one's own is written -/
theorem Tst.write {K : PySem.W.Frag} {H : Hp} {l : Addr} {xs ys : List V} (h : H l = some (.lst xs)) : Tst K H (upd H l (.lst ys)) := fun a zs q => by
  rcases q with (q | ⟨o, q⟩) | q
  · exact .inl (.inl (by rw [upd_ne (ne_of q h (by intro z; cases z))]; exact q))
  · exact .inl (.inr ⟨o, by rw [upd_ne (ne_of q h (by intro z; cases z))]; exact q⟩)
  · exact .inr q
theorem same_upd {H : Hp} {p : Addr} {o : HO} (h : H p = none) : Same H (upd H p o) := fun b x e => by
  rw [upd_ne (ne_of_none e h)]
  exact e
/-- what lies outside what is kept may be written -/
theorem Same.write {P H : Hp} {l : Addr} {o : HO} (e : Same P H) (h : P l = none) : Same P (upd H l o) := fun b x q => by
  rw [upd_ne (ne_of_none q h)]
  exact e b x q
section
variable {K : PySem.W.Frag} {H H' : Hp}
mutual
theorem Dp.keep (t : Tst K H H') : ∀ (d : PyData) (v : V), imm d = true → Dp K H v d → Dp K H' v d
  | .none, _, _, h => by
    cases h
    exact .non
  | .bool b, _, _, h => by
    cases h
    exact .bl b
  | .int i, _, _, h => by
    cases h
    exact .int i
  | .str x, _, _, h => by
    cases h
    exact .str x
  | .list ds, _, hi, _ => by simp only [imm] at hi; cases hi
  | .dict kvs, _, hi, _ => by simp only [imm] at hi; cases hi
  | .tuple ds, _, hi, h => by
    cases h with
    | tup hq ha => exact .tup (t _ _ hq) (DpAll.keep t ds _ (imm_of_tuple hi) ha)
theorem DpAll.keep (t : Tst K H H') : ∀ (ds : List PyData) (vs : List V), immAll ds = true → DpAll K H vs ds → DpAll K H' vs ds
  | [], _, _, h => by
    cases h
    exact .nil
  | d :: ds, _, hi, h => by
    cases h with
    | cons h1 h2 =>
      have hi' : imm d = true ∧ immAll ds = true := by simpa only [immAll, Bool.and_eq_true] using hi
      exact .cons (Dp.keep t d _ hi'.1 h1) (DpAll.keep t ds _ hi'.2 h2)
end
mutual
theorem Dp.same (e : Same H H') : ∀ (d : PyData) (v : V), Dp K H v d → Dp K H' v d
  | .none, _, h => by
    cases h
    exact .non
  | .bool b, _, h => by
    cases h
    exact .bl b
  | .int i, _, h => by
    cases h
    exact .int i
  | .str x, _, h => by
    cases h
    exact .str x
  | .list ds, _, h => by
    cases h with
    | lst hq ha => exact .lst (e.seq hq) (DpAll.same e ds _ ha)
  | .dict kvs, _, h => by cases h
  | .tuple ds, _, h => by
    cases h with
    | tup hq ha => exact .tup (Tst.same e _ _ hq) (DpAll.same e ds _ ha)
theorem DpAll.same (e : Same H H') : ∀ (ds : List PyData) (vs : List V), DpAll K H vs ds → DpAll K H' vs ds
  | [], _, h => by
    cases h
    exact .nil
  | d :: ds, _, h => by
    cases h with
    | cons h1 h2 => exact .cons (Dp.same e d _ h1) (DpAll.same e ds _ h2)
end
end

/-! ### slots -/
inductive Kd where
  | no
  | at_ (v : V)
  | im (d : PyData)
  | rl (ds : List PyData)
  | ml (ds : List PyData)
abbrev Cn := List Kd
def SlotOk (K : PySem.W.Frag) (P H : Hp) (o : Option (Option V)) : Kd → Prop
  | .no => True
  | .at_ v => o = some (some v)
  | .im d => ∃ v, o = some (some v) ∧ imm d = true ∧ Dp K H v d
  | .rl ds => ∃ a xs, o = some (some (.ref a)) ∧ immAll ds = true ∧ SqL K P a xs ∧ DpAll K P xs ds
  | .ml ds => ∃ a xs, o = some (some (.ref a)) ∧ immAll ds = true ∧ P a = none ∧ H a = some (.lst xs) ∧ DpAll K H xs ds
structure Sd (K : PySem.W.Frag) (P : Hp) (G : Cn) (σ : L2.St) (H : Hp) : Prop where
  len : σ.length = G.length
  same : Same P H
  slot : ∀ (i : Nat) (k : Kd), G[i]? = some k → SlotOk K P H σ[i]? k
  dis : ∀ (i j : Nat) (ds es : List PyData) (a : Addr), i ≠ j → G[i]? = some (.ml ds) → G[j]? = some (.ml es) → σ[i]? = some (some (.ref a)) → σ[j]? ≠ some (some (.ref a))

inductive Vk where
  | im (d : PyData)
  | sl (ds : List PyData)
  | tl (ds : List PyData)
  | nl (ds : List PyData)
def VOk (K : PySem.W.Frag) (H H' : Hp) (v : V) : Vk → Prop
  | .im d => imm d = true ∧ Dp K H' v d
  | .sl ds => immAll ds = true ∧ Dp K H' v (.list ds)
  | .tl ds => immAll ds = true ∧ ∃ a xs, v = .ref a ∧ H' a = some (.lst xs) ∧ DpAll K H' xs ds
  | .nl ds => immAll ds = true ∧ ∃ a xs, v = .ref a ∧ H a = none ∧ H' a = some (.lst xs) ∧ DpAll K H' xs ds
inductive Vk.le : Vk → Vk → Prop
  | refl {k} : Vk.le k k
  | nt {ds} : Vk.le (.nl ds) (.tl ds)
  | ns {ds} : Vk.le (.nl ds) (.sl ds)
  | ts {ds} : Vk.le (.tl ds) (.sl ds)
section
variable {K : PySem.W.Frag} {P H H0 H1 H' : Hp} {G : Cn} {σ : L2.St} {v : V} {k k' : Vk}
theorem VOk.weak (h : VOk K H H' v k) (l : Vk.le k k') : VOk K H H' v k' := by
  cases l with
  | refl => exact h
  | nt =>
    obtain ⟨h0, a, xs, h1, h2, h3, h4⟩ := h
    exact ⟨h0, a, xs, h1, h3, h4⟩
  | ns =>
    obtain ⟨h0, a, xs, h1, h2, h3, h4⟩ := h
    exact ⟨h0, h1 ▸ .lst (SqL.of h3) h4⟩
  | ts =>
    obtain ⟨h0, a, xs, h1, h3, h4⟩ := h
    exact ⟨h0, h1 ▸ .lst (SqL.of h3) h4⟩
theorem VOk.later (h : VOk K H H1 v k) (e : Same H1 H') : VOk K H H' v k := by
  cases k with
  | im d => exact ⟨h.1, Dp.same e d v h.2⟩
  | sl ds => exact ⟨h.1, Dp.same e _ v h.2⟩
  | tl ds =>
    obtain ⟨h0, a, xs, h1, h3, h4⟩ := h
    exact ⟨h0, a, xs, h1, e _ _ h3, DpAll.same e _ _ h4⟩
  | nl ds =>
    obtain ⟨h0, a, xs, h1, h2, h3, h4⟩ := h
    exact ⟨h0, a, xs, h1, h2, e _ _ h3, DpAll.same e _ _ h4⟩
theorem VOk.sooner (h : VOk K H1 H' v k) (e : Same H H1) : VOk K H H' v k := by
  cases k with
  | im d => exact h
  | sl ds => exact h
  | tl ds => exact h
  | nl ds =>
    obtain ⟨h0, a, xs, h1, h2, h3, h4⟩ := h
    exact ⟨h0, a, xs, h1, e.free h2, h3, h4⟩

theorem SlotOk.later {o : Option (Option V)} {k : Kd} (h : SlotOk K P H o k) (e : Same H H') : SlotOk K P H' o k := by
  cases k with
  | no => trivial
  | at_ v => exact h
  | im d =>
    obtain ⟨v, a, b, c⟩ := h
    exact ⟨v, a, b, Dp.same e d v c⟩
  | rl ds => exact h
  | ml ds =>
    obtain ⟨a, xs, h1, h2, h3, h4, h5⟩ := h
    exact ⟨a, xs, h1, h2, h3, e _ _ h4, DpAll.same e _ _ h5⟩
theorem Sd.later (s : Sd K P G σ H) (e : Same H H') : Sd K P G σ H' := ⟨s.len, s.same.trans e, fun i k h => (s.slot i k h).later e, s.dis⟩
theorem Sd.lt (s : Sd K P G σ H) {i : Nat} {k : Kd} (h : G[i]? = some k) : i < σ.length := by
  rw [s.len]
  obtain ⟨h, _⟩ := List.getElem?_eq_some_iff.mp h
  exact h
/-- a slot is set: its new kind holds, and where that is a list of one's own, no other slot has it -/
theorem Sd.put (s : Sd K P G σ H) {i : Nat} (hi : i < G.length) {v : V} {k : Kd} (h : SlotOk K P H (some (some v)) k)
    (hd : ∀ ds, k = .ml ds → ∀ (j : Nat) (es : List PyData), j ≠ i → G[j]? = some (.ml es) → σ[j]? ≠ some (some v)) : Sd K P (G.set i k) (σ.set i (some v)) H := by
  have hi' : i < σ.length := by rw [s.len]; exact hi
  refine ⟨by rw [List.length_set, List.length_set, s.len], s.same, fun j q hj => ?_, fun a b ds es x hab ha hb hx => ?_⟩
  · by_cases e : i = j
    · subst e
      rw [List.getElem?_set_self hi] at hj
      cases hj
      rw [List.getElem?_set_self hi']
      exact h
    · rw [List.getElem?_set_ne e] at hj ⊢
      exact s.slot j q hj
  · by_cases e1 : i = a
    · subst e1
      rw [List.getElem?_set_self hi] at ha
      rw [List.getElem?_set_ne hab] at hb ⊢
      rw [List.getElem?_set_self hi'] at hx
      cases ha
      cases hx
      exact hd ds rfl b es (Ne.symm hab) hb
    · rw [List.getElem?_set_ne e1] at ha hx
      by_cases e2 : i = b
      · subst e2
        rw [List.getElem?_set_self hi] at hb
        rw [List.getElem?_set_self hi']
        cases hb
        intro z
        cases z
        exact hd es rfl a ds (Ne.symm e1) ha hx
      · rw [List.getElem?_set_ne e2] at hb ⊢
        exact s.dis a b ds es x hab ha hb hx
theorem Sd.putIm (s : Sd K P G σ H) {i : Nat} (hi : i < G.length) {v : V} {d : PyData} (h : imm d = true ∧ Dp K H v d) : Sd K P (G.set i (.im d)) (σ.set i (some v)) H :=
  s.put hi ⟨v, rfl, h.1, h.2⟩ fun _ e => by cases e
/-- the lists of one's own stand in the heap -/
theorem Sd.ml (s : Sd K P G σ H) {i : Nat} {ds : List PyData} (h : G[i]? = some (.ml ds)) : ∃ a xs, σ[i]? = some (some (.ref a)) ∧ immAll ds = true ∧ P a = none ∧ H a = some (.lst xs) ∧ DpAll K H xs ds := s.slot i _ h
theorem Sd.putNl (s : Sd K P G σ H) (e : Same H H') {i : Nat} (hi : i < G.length) {v : V} {ds : List PyData} (h : VOk K H H' v (.nl ds)) : Sd K P (G.set i (.ml ds)) (σ.set i (some v)) H' := by
  obtain ⟨h0, a, xs, rfl, h2, h3, h4⟩ := h
  refine (s.later e).put hi ⟨a, xs, rfl, h0, s.same.free h2, h3, h4⟩ fun es he j es' hj hg z => ?_
  obtain ⟨b, ys, q1, _, _, q4, _⟩ := s.ml hg
  rw [z] at q1
  cases q1
  rw [q4] at h2
  cases h2
theorem Sd.putAt (s : Sd K P G σ H) {i : Nat} (hi : i < G.length) {v : V} : Sd K P (G.set i (.at_ v)) (σ.set i (some v)) H :=
  s.put hi rfl fun _ e => by cases e
theorem Sd.putNo (s : Sd K P G σ H) {i : Nat} (hi : i < G.length) {v : V} : Sd K P (G.set i .no) (σ.set i (some v)) H :=
  s.put hi trivial fun _ e => by cases e
/-- a list of one's own is written -/
theorem Sd.write (s : Sd K P G σ H) {i : Nat} {ds es : List PyData} {a : Addr} {xs ys : List V} (h : G[i]? = some (.ml ds)) (ha : σ[i]? = some (some (.ref a))) (hx : H a = some (.lst xs)) (hi : immAll es = true) (hy : DpAll K H ys es) :
    Sd K P (G.set i (.ml es)) σ (upd H a (.lst ys)) := by
  have hlt : i < G.length := by
    obtain ⟨h, _⟩ := List.getElem?_eq_some_iff.mp h
    exact h
  obtain ⟨a', xs', q1, q2, q3, q4, q5⟩ := s.ml h
  rw [ha] at q1
  cases q1
  have t : Tst K H (upd H a (.lst ys)) := Tst.write hx
  refine ⟨by rw [List.length_set, s.len], Same.write s.same q3, fun j k hj => ?_, fun p q ds' es' x hpq hp hq hσ => ?_⟩
  · by_cases e : i = j
    · subst e
      rw [List.getElem?_set_self hlt] at hj
      cases hj
      exact ⟨a, ys, ha, hi, q3, upd_same, DpAll.keep t _ _ hi hy⟩
    · rw [List.getElem?_set_ne e] at hj
      have z := s.slot j k hj
      cases k with
      | no => trivial
      | at_ v => exact z
      | im d =>
        obtain ⟨v, z1, z2, z3⟩ := z
        exact ⟨v, z1, z2, Dp.keep t d v z2 z3⟩
      | rl es' => exact z
      | ml es' =>
        obtain ⟨b, zs, z1, z2, z3, z4, z5⟩ := z
        have hba : b ≠ a := fun w => s.dis i j ds es' a e h hj ha (by rw [z1, w])
        exact ⟨b, zs, z1, z2, z3, by rw [upd_ne hba]; exact z4, DpAll.keep t _ _ z2 z5⟩
  · have low : ∀ (j : Nat) (es' : List PyData), (G.set i (.ml es))[j]? = some (.ml es') → ∃ es'', G[j]? = some (.ml es'') := fun j es' hj => by
      by_cases e : i = j
      · subst e
        exact ⟨ds, h⟩
      · rw [List.getElem?_set_ne e] at hj
        exact ⟨es', hj⟩
    obtain ⟨_, hp'⟩ := low p ds' hp
    obtain ⟨_, hq'⟩ := low q es' hq
    exact s.dis p q _ _ x hpq hp' hq' hσ
/-- less is told of a slot -/
theorem Sd.forget (s : Sd K P G σ H) (i : Nat) : Sd K P (G.set i .no) σ H := by
  refine ⟨by rw [List.length_set, s.len], s.same, fun j k hj => ?_, fun p q ds' es' x hpq hp hq hσ => ?_⟩
  · by_cases e : i = j
    · subst e
      by_cases hi : i < G.length
      · rw [List.getElem?_set_self hi] at hj
        cases hj
        trivial
      · rw [List.getElem?_eq_none (by rw [List.length_set]; omega)] at hj
        cases hj
    · rw [List.getElem?_set_ne e] at hj
      exact s.slot j k hj
  · have low : ∀ (j : Nat) (es' : List PyData), (G.set i .no)[j]? = some (.ml es') → G[j]? = some (.ml es') := fun j es' hj => by
      by_cases e : i = j
      · subst e
        by_cases hi : i < G.length
        · rw [List.getElem?_set_self hi] at hj
          cases hj
        · rw [List.getElem?_eq_none (by rw [List.length_set]; omega)] at hj
          cases hj
      · rw [List.getElem?_set_ne e] at hj
        exact hj
    exact s.dis p q _ _ x hpq (low p _ hp) (low q _ hq) hσ
end

/-! ### what is kept through a loop -/
/-- P, and all tuples of H -/
def prot (P H : Hp) : Hp := fun b => match P b with
  | some o => some o
  | none => match H b with
    | some (.tup xs) => some (.tup xs)
    | some (.frz o u) => some (.frz o u)
    | _ => none
section
variable {K : PySem.W.Frag} {P H : Hp}
theorem prot_of {b : Addr} {o : HO} (h : P b = some o) : prot P H b = some o := by
  unfold prot
  rw [h]
theorem prot_same : Same P (prot P H) := fun b o h => prot_of h
theorem prot_le (e : Same P H) : Same (prot P H) H := fun b o h => by
  unfold prot at h
  cases q : P b with
  | some u =>
    rw [q] at h
    cases h
    exact e b _ q
  | none =>
    rw [q] at h
    cases r : H b with
    | none =>
      rw [r] at h
      cases h
    | some z =>
      rw [r] at h
      cases z with
      | tup xs => exact h
      | frz ob v => exact h
      | _ => cases h
theorem prot_tup {b : Addr} {xs : List V} (e : Same P H) (h : H b = some (.tup xs)) : prot P H b = some (.tup xs) := by
  unfold prot
  cases q : P b with
  | some u =>
    have z := e b u q
    rw [h] at z
    cases z
    rfl
  | none =>
    show (match H b with
    | some (.tup xs) => some (.tup xs)
    | some (.frz o u) => some (.frz o u)
    | _ => none) = some (HO.tup xs)
    rw [h]
theorem prot_frz {b : Addr} {o : Obj} {u : HO} (e : Same P H) (h : H b = some (.frz o u)) : prot P H b = some (.frz o u) := by
  unfold prot
  cases q : P b with
  | some u =>
    have z := e b u q
    rw [h] at z
    cases z
    rfl
  | none =>
    show (match H b with
    | some (.tup xs) => some (.tup xs)
    | some (.frz o u) => some (.frz o u)
    | _ => none) = some (HO.frz o u)
    rw [h]
theorem prot_none {b : Addr} {xs : List V} (hp : P b = none) (h : H b = some (.lst xs)) : prot P H b = none := by
  unfold prot
  rw [hp]
  show (match H b with
    | some (.tup xs) => some (.tup xs)
    | some (.frz o u) => some (.frz o u)
    | _ => none) = (none : Option HO)
  rw [h]
theorem prot_ts (e : Same P H) : Tst K H (prot P H) := fun a xs h => by
  rcases h with (h | ⟨o, h⟩) | h
  · exact .inl (.inl (prot_tup e h))
  · exact .inl (.inr ⟨o, prot_frz e h⟩)
  · exact .inr h
end
section
variable {K : PySem.W.Frag} {P P' H : Hp} {G : Cn} {σ : L2.St}
/-- more is kept, as long as the lists of one's own are not -/
theorem Sd.more (s : Sd K P G σ H) (e1 : Same P P') (e2 : Same P' H) (hn : ∀ (i : Nat) (ds : List PyData) (a : Addr), G[i]? = some (.ml ds) → σ[i]? = some (some (.ref a)) → P' a = none) : Sd K P' G σ H := by
  refine ⟨s.len, e2, fun i k h => ?_, s.dis⟩
  have z := s.slot i k h
  cases k with
  | no => trivial
  | at_ v => exact z
  | im d => exact z
  | rl ds =>
    obtain ⟨a, xs, h1, h2, h3, h4⟩ := z
    exact ⟨a, xs, h1, h2, e1.seq h3, DpAll.same e1 _ _ h4⟩
  | ml ds =>
    obtain ⟨a, xs, h1, h2, h3, h4, h5⟩ := z
    exact ⟨a, xs, h1, h2, hn i ds a h h1, h4, h5⟩
theorem Sd.prot (s : Sd K P G σ H) : Sd K (prot P H) G σ H := s.more prot_same (prot_le s.same) fun i ds a h h1 => by
  obtain ⟨b, xs, q1, _, q3, q4, _⟩ := s.ml h
  rw [h1] at q1
  cases q1
  exact prot_none q3 q4
/-- all lists of one's own are read from now on -/
def dem : Kd → Kd
  | .ml ds => .rl ds
  | k => k
theorem Sd.still (s : Sd K P G σ H) : Sd K H (G.map dem) σ H := by
  refine ⟨by rw [List.length_map, s.len], Same.refl H, fun i k h => ?_, fun i j ds es a _ h => ?_⟩
  · rw [List.getElem?_map] at h
    cases q : G[i]? with
    | none =>
      rw [q] at h
      cases h
    | some k' =>
      rw [q] at h
      cases h
      have z := s.slot i k' q
      cases k' with
      | no => trivial
      | at_ v => exact z
      | im d => exact z
      | rl ds =>
        obtain ⟨a, xs, h1, h2, h3, h4⟩ := z
        exact ⟨a, xs, h1, h2, s.same.seq h3, DpAll.same s.same _ _ h4⟩
      | ml ds =>
        obtain ⟨a, xs, h1, h2, h3, h4, h5⟩ := z
        exact ⟨a, xs, h1, h2, SqL.of h4, h5⟩
  · rw [List.getElem?_map] at h
    cases q : G[i]? with
    | none =>
      rw [q] at h
      cases h
    | some k' =>
      rw [q] at h
      cases k' <;> cases h
/-- the slots at vs are emptied -/
def wipeG (G : Cn) : List Nat → Cn
  | [] => G
  | v :: vs => (wipeG G vs).set v .no
theorem wipeG_length (G : Cn) : ∀ vs, (wipeG G vs).length = G.length
  | [] => rfl
  | v :: vs => by unfold wipeG; rw [List.length_set, wipeG_length G vs]
theorem Sd.clear (s : Sd K P G σ H) {i : Nat} : Sd K P (G.set i .no) (σ.set i none) H := by
  have f := s.forget i
  refine ⟨by rw [List.length_set, f.len], f.same, fun j k hj => ?_, fun p q ds es x hpq hp hq hσ => ?_⟩
  · by_cases e : i = j
    · subst e
      by_cases hi : i < G.length
      · rw [List.getElem?_set_self hi] at hj
        cases hj
        trivial
      · rw [List.getElem?_eq_none (by rw [List.length_set]; omega)] at hj
        cases hj
    · rw [List.getElem?_set_ne e]
      exact f.slot j k hj
  · have np : ∀ (j : Nat) (ds' : List PyData), (G.set i .no)[j]? = some (.ml ds') → i ≠ j := fun j ds' hj e => by
      subst e
      by_cases hi : i < G.length
      · rw [List.getElem?_set_self hi] at hj
        cases hj
      · rw [List.getElem?_eq_none (by rw [List.length_set]; omega)] at hj
        cases hj
    rw [List.getElem?_set_ne (np p _ hp)] at hσ
    rw [List.getElem?_set_ne (np q _ hq)]
    exact f.dis p q ds es x hpq hp hq hσ
theorem Sd.wipe (s : Sd K P G σ H) : ∀ vs, Sd K P (wipeG G vs) (wipe σ vs) H
  | [] => s
  | v :: vs => (Sd.wipe s vs).clear
end
theorem wipe_set {σ : L2.St} {o : Option V} : ∀ {vs : List Nat} {i : Nat}, i ∈ vs → L2.wipe (σ.set i o) vs = L2.wipe σ vs
  | v :: vs, i, h => by
    unfold L2.wipe
    by_cases e : i = v
    · subst e
      by_cases h2 : i ∈ vs
      · rw [wipe_set h2]
      · have key : ∀ (ws : List Nat) (τ : L2.St), i ∉ ws → L2.wipe (τ.set i o) ws = (L2.wipe τ ws).set i o := by
          intro ws
          induction ws with
          | nil => intro τ _; rfl
          | cons w ws ih =>
            intro τ hn
            simp only [List.mem_cons, not_or] at hn
            unfold L2.wipe
            rw [ih τ hn.2, List.set_comm _ _ hn.1]
        rw [key vs σ h2, List.set_set]
    · rw [wipe_set ((List.mem_cons.mp h).resolve_left e)]
theorem wipe_twice {σ : L2.St} : ∀ {ws vs : List Nat}, (∀ i ∈ ws, i ∈ vs) → L2.wipe (L2.wipe σ ws) vs = L2.wipe σ vs
  | [], _, _ => rfl
  | w :: ws, vs, h => by
    show L2.wipe ((L2.wipe σ ws).set w none) vs = _
    rw [wipe_set (h w List.mem_cons_self), wipe_twice fun i hi => h i (List.mem_cons_of_mem _ hi)]

/-! ### universal readings -/
section
variable (X : Cx)
def wE (e : Expr) : TE := fun σ H Q => ∀ (pins : List (Addr × Obj)) (s : Shared), Inv X pins σ H s → wpAny (model X.prog X.w) X.A (eval e X.env) (EP X pins σ Q) X.xe s
def wT (e : Expr) : TT := fun σ H Q => ∀ (pins : List (Addr × Obj)) (s : Shared), Inv X pins σ H s → wpAny (model X.prog X.w) X.A (isTrue e X.env (eval e X.env)) (TP X pins σ Q) X.xe s
def wA (es : List Expr) : TA := fun σ H Q => ∀ (pos : Pos) (pins : List (Addr × Obj)) (s : Shared), Inv X pins σ H s → wpAny (model X.prog X.w) X.A (spliced (backTo pos (starEach es X.env))) (AP X pins σ Q) X.xe s
def wS (st : Stmt) : TS := fun D σ H => ∀ (pins : List (Addr × Obj)) (s : Shared), Inv X pins σ H s → wpAny (model X.prog X.w) X.A (exec st X.env) (SP X pins D) X.xe s
def wSs (st : List Stmt) : TS := fun D σ H => ∀ (pins : List (Addr × Obj)) (s : Shared), Inv X pins σ H s → wpAny (model X.prog X.w) X.A (execs st X.env) (SP X pins D) X.xe s
def wG (tg : Expr) : TG := fun v σ H Q => ∀ (pins : List (Addr × Obj)) (s : Shared) (u : Value), Inv X pins σ H s → RelV v u →
  wpAny (model X.prog X.w) X.A (assign tg X.env u) (fun _ s' => ∃ σ' H', Inv X pins σ' H' s' ∧ Q σ' H') X.xe s
def wI (tg iter : Expr) : TI := fun σ H R => ∀ (pins : List (Addr × Obj)) (s : Shared), Inv X pins σ H s →
  wpAny (model X.prog X.w) X.A (eval iter X.env) (fun v s1 => wpAny (model X.prog X.w) X.A (pyIter v) (PIE X pins σ tg R) X.xe s1) X.xe s
end
end Bk

set_option Elab.async false
set_option linter.all false
set_option maxRecDepth 100000
namespace L2
open PySem PySem.Spec PyProof.Rows
theorem DpAll.rep {K : PySem.W.Frag} {H : Hp} {xs : List V} {ds : List PyData} (h : DpAll K H xs ds) : ∀ n : Nat, DpAll K H (List.replicate n xs).flatten (List.replicate n ds).flatten
  | 0 => .nil
  | n + 1 => by
    rw [List.replicate_succ, List.replicate_succ, List.flatten_cons, List.flatten_cons]
    exact h.append (DpAll.rep h n)
end L2
namespace Bk
open PySem PySem.Spec PyProof.Rows L2

theorem pe_w {X : Cx} {e : Expr} : PE X e (wE X e) := ⟨fun pins s σ H Q I h => h pins s I⟩
theorem pt_w {X : Cx} {e : Expr} : PT X e (wT X e) := ⟨fun pins s σ H Q I h => h pins s I⟩
theorem pa_w {X : Cx} {es : List Expr} : PA X es (wA X es) := ⟨fun pos pins s σ H Q I h => h pos pins s I⟩
theorem ps_w {X : Cx} {st : Stmt} : PS X st (wS X st) := ⟨fun pins s σ H D I h => h pins s I⟩
theorem pss_w {X : Cx} {st : List Stmt} : PSs X st (wSs X st) := ⟨fun pins s σ H D I h => h pins s I⟩
theorem pg_w {X : Cx} {tg : Expr} : PG X tg (wG X tg) := ⟨fun pins s σ H v u Q I r h => h pins s u I r⟩
theorem pi_w {X : Cx} {tg iter : Expr} : PI X tg iter (wI X tg iter) := ⟨fun pins s σ H R I h => h pins s I⟩
theorem to_wE {X : Cx} {e : Expr} {t : TE} (h : PE X e t) {σ : L2.St} {H : Hp} {Q : VK} (q : t σ H Q) : wE X e σ H Q := fun pins s I => h.run pins s σ H Q I q
theorem to_wT {X : Cx} {e : Expr} {t : TT} (h : PT X e t) {σ : L2.St} {H : Hp} {Q : Bool → Hp → Prop} (q : t σ H Q) : wT X e σ H Q := fun pins s I => h.run pins s σ H Q I q
theorem to_wA {X : Cx} {es : List Expr} {t : TA} (h : PA X es t) {σ : L2.St} {H : Hp} {Q : List V → Hp → Prop} (q : t σ H Q) : wA X es σ H Q := fun pos pins s I => h.run pos pins s σ H Q I q
theorem to_wS {X : Cx} {st : Stmt} {t : TS} (h : PS X st t) {σ : L2.St} {H : Hp} {D : Ends} (q : t D σ H) : wS X st D σ H := fun pins s I => h.run pins s σ H D I q
theorem to_wSs {X : Cx} {st : List Stmt} {t : TS} (h : PSs X st t) {σ : L2.St} {H : Hp} {D : Ends} (q : t D σ H) : wSs X st D σ H := fun pins s I => h.run pins s σ H D I q
theorem to_wG {X : Cx} {tg : Expr} {t : TG} (h : PG X tg t) {v : V} {σ : L2.St} {H : Hp} {Q : L2.St → Hp → Prop} (q : t v σ H Q) : wG X tg v σ H Q := fun pins s u I r => h.run pins s σ H v u Q I r q
theorem to_wI {X : Cx} {tg iter : Expr} {t : TI} (h : PI X tg iter t) {σ : L2.St} {H : Hp} {R : It → Hp → Prop} (q : t σ H R) : wI X tg iter σ H R := fun pins s I => h.run pins s σ H R I q

/-! ### judgements -/
inductive VsOk (K : PySem.W.Frag) (H H' : Hp) : List V → List Vk → Prop
  | nil : VsOk K H H' [] []
  | cons {v : V} {vs : List V} {k : Vk} {ks : List Vk} : VOk K H H' v k → VsOk K H H' vs ks → VsOk K H H' (v :: vs) (k :: ks)
theorem VsOk.later {K : PySem.W.Frag} {H H1 H' : Hp} {vs : List V} {ks : List Vk} (h : VsOk K H H1 vs ks) (e : Same H1 H') : VsOk K H H' vs ks := by
  induction h with
  | nil => exact .nil
  | cons a _ ih => exact .cons (a.later e) ih
theorem VsOk.sooner {K : PySem.W.Frag} {H H1 H' : Hp} {vs : List V} {ks : List Vk} (h : VsOk K H1 H' vs ks) (e : Same H H1) : VsOk K H H' vs ks := by
  induction h with
  | nil => exact .nil
  | cons a _ ih => exact .cons (a.sooner e) ih
theorem VsOk.length {K : PySem.W.Frag} {H H' : Hp} {vs : List V} {ks : List Vk} (h : VsOk K H H' vs ks) : vs.length = ks.length := by
  induction h with
  | nil => rfl
  | cons _ _ ih => rw [List.length_cons, List.length_cons, ih]
theorem VsOk.get {K : PySem.W.Frag} {H H' : Hp} {vs : List V} {ks : List Vk} (h : VsOk K H H' vs ks) : ∀ {i : Nat} {k : Vk}, ks[i]? = some k → ∃ v, vs[i]? = some v ∧ VOk K H H' v k := by
  induction h with
  | nil => intro i k e; simp at e
  | @cons v vs k ks a _ ih =>
    intro i k' e
    cases i with
    | zero =>
      have e' : k = k' := by simpa using e
      subst e'
      exact ⟨v, rfl, a⟩
    | succ i =>
      obtain ⟨w, e1, e2⟩ := ih (i := i) (k := k') (by simpa using e)
      exact ⟨w, by simpa using e1, e2⟩
def EK (X : Cx) (e : Expr) (G : Cn) (k : Vk) : Prop := ∀ (P : Hp) (σ : L2.St) (H : Hp) (Q : VK), Sd X.K P G σ H → (∀ v H', Same H H' → VOk X.K H H' v k → Q v H') → wE X e σ H Q
def TK (X : Cx) (e : Expr) (G : Cn) (b : Bool) : Prop := ∀ (P : Hp) (σ : L2.St) (H : Hp) (Q : Bool → Hp → Prop), Sd X.K P G σ H → (∀ H', Same H H' → Q b H') → wT X e σ H Q
def AK (X : Cx) (es : List Expr) (G : Cn) (ks : List Vk) : Prop := ∀ (P : Hp) (σ : L2.St) (H : Hp) (Q : List V → Hp → Prop), Sd X.K P G σ H → (∀ vs H', Same H H' → VsOk X.K H H' vs ks → Q vs H') → wA X es σ H Q
/-- what follows, and what is handed back -/
def Goes (K : PySem.W.Frag) (P : Hp) (H : Hp) (D : Ends) (N : Cn → Prop) (R : Vk → Prop) : Prop :=
  (∀ P' G' σ' H', Same P P' → N G' → Sd K P' G' σ' H' → D.nx σ' H') ∧ (∀ v H' k, R k → Same P H' → VOk K P H' v k → D.rt v H')
def SK (X : Cx) (st : Stmt) (G : Cn) (N : Cn → Prop) (R : Vk → Prop) : Prop := ∀ (P : Hp) (σ : L2.St) (H : Hp) (D : Ends), Sd X.K P G σ H → Goes X.K P H D N R → wS X st D σ H
def SKs (X : Cx) (st : List Stmt) (G : Cn) (N : Cn → Prop) (R : Vk → Prop) : Prop := ∀ (P : Hp) (σ : L2.St) (H : Hp) (D : Ends), Sd X.K P G σ H → Goes X.K P H D N R → wSs X st D σ H

section
variable {X : Cx} {e a b c : Expr} {es : List Expr} {G G1 G2 : Cn} {k k' ka kb : Vk} {ks : List Vk} {pos p : Pos} {N N1 : Cn → Prop} {R : Vk → Prop} {st : Stmt} {sts : List Stmt}
theorem EK.weak (h : EK X e G k) (l : Vk.le k k') : EK X e G k' := fun P σ H Q s q => h P σ H Q s fun v H' e1 o => q v H' e1 (o.weak l)
theorem EK.of (h : EK X e G k) (l : k = k') : EK X e G k' := l ▸ h
theorem TK.of {t t' : Bool} (h : TK X e G t) (l : t = t') : TK X e G t' := l ▸ h
theorem ak_nil : AK X [] G [] := fun P σ H Q s q => to_wA pa_nil (q [] H (Same.refl H) .nil)
theorem ak_cons (ha : EK X e G k) (hr : AK X es G ks) (hs : starEach (e :: es) X.env = (false, eval e X.env) :: starEach es X.env := by rfl) : AK X (e :: es) G (k :: ks) := fun P σ H Q s q =>
  to_wA (pa_cons pe_w pa_w hs) (ha P σ H _ s fun v H1 e1 o => hr P σ H1 _ (s.later e1) fun vs H2 e2 os => q (v :: vs) H2 (e1.trans e2) (.cons (o.later e2) (os.sooner e1)))

/-! ### names, constants -/
theorem ek_im (i : Nat) {x : Str} {d : PyData} (hN : X.N[i]? = some x := by rfl) (hv : Vis X.env.scope x := by first | exact Or.inl rfl | exact Or.inr (Or.inl rfl) | exact Or.inr (Or.inr rfl)) (hG : G[i]? = some (.im d) := by rfl)
    (hd : (x == ("__debug__" : Str)) = false := by decide) (hcd : (x == ("__classdict__" : Str)) = false := by decide) : EK X (.Name x pos) G (.im d) := fun P σ H Q s q => by
  obtain ⟨v, h1, h2, h3⟩ := s.slot i _ hG
  exact to_wE (pe_var hN hv hd hcd) ⟨v, h1, q v H (Same.refl H) ⟨h2, h3⟩⟩
theorem ek_rl (i : Nat) {x : Str} {ds : List PyData} (hN : X.N[i]? = some x := by rfl) (hv : Vis X.env.scope x := by first | exact Or.inl rfl | exact Or.inr (Or.inl rfl) | exact Or.inr (Or.inr rfl)) (hG : G[i]? = some (.rl ds) := by rfl)
    (hd : (x == ("__debug__" : Str)) = false := by decide) (hcd : (x == ("__classdict__" : Str)) = false := by decide) : EK X (.Name x pos) G (.sl ds) := fun P σ H Q s q => by
  obtain ⟨a, xs, h1, h2, h3, h4⟩ := s.slot i _ hG
  exact to_wE (pe_var hN hv hd hcd) ⟨_, h1, q _ H (Same.refl H) ⟨h2, .lst (s.same.seq h3) (DpAll.same s.same _ _ h4)⟩⟩
theorem ek_ml (i : Nat) {x : Str} {ds : List PyData} (hN : X.N[i]? = some x := by rfl) (hv : Vis X.env.scope x := by first | exact Or.inl rfl | exact Or.inr (Or.inl rfl) | exact Or.inr (Or.inr rfl)) (hG : G[i]? = some (.ml ds) := by rfl)
    (hd : (x == ("__debug__" : Str)) = false := by decide) (hcd : (x == ("__classdict__" : Str)) = false := by decide) : EK X (.Name x pos) G (.tl ds) := fun P σ H Q s q => by
  obtain ⟨a, xs, h1, h2, h3, h4, h5⟩ := s.ml hG
  exact to_wE (pe_var hN hv hd hcd) ⟨_, h1, q _ H (Same.refl H) ⟨h2, a, xs, rfl, h4, h5⟩⟩
theorem ek_int {i : Int} {j : Nat} : EK X (.Constant (.int i) j pos) G (.im (.int i)) := fun P σ H Q s q => to_wE pe_int (q _ H (Same.refl H) ⟨imm_int i, .int i⟩)
theorem ek_bool {t : Bool} {j : Nat} : EK X (.Constant (.bool t) j pos) G (.im (.bool t)) := fun P σ H Q s q => to_wE pe_bl (q _ H (Same.refl H) ⟨imm_bool t, .bl t⟩)
theorem ek_none {j : Nat} : EK X (.Constant .none j pos) G (.im .none) := fun P σ H Q s q => to_wE pe_non (q _ H (Same.refl H) ⟨imm_none, .non⟩)
theorem ek_str {x : Str} {j : Nat} : EK X (.Constant (.str x) j pos) G (.im (.str x)) := fun P σ H Q s q => to_wE pe_str (q _ H (Same.refl H) ⟨imm_str x, .str x⟩)
/-- a module's constant -/
theorem ek_glob {x : Str} {i : Int} {t : Tok} (hm : X.mg x = some (.int i t)) (hg : Gl X x := by rfl) (hd : (x == ("__debug__" : Str)) = false := by decide) : EK X (.Name x pos) G (.im (.int i)) := fun P σ H Q s q =>
  to_wE (pe_glob (v := .int i) hg hm ⟨t, rfl⟩ hd) (q _ H (Same.refl H) ⟨imm_int i, .int i⟩)

/-! ### whole numbers -/
theorem ek_add {i j : Int} (ha : EK X a G (.im (.int i))) (hb : EK X b G (.im (.int j))) : EK X (.BinOp a .Add b pos) G (.im (.int (i + j))) := fun P σ H Q s q =>
  to_wE (pe_op op_add pe_w pe_w) (ha P σ H _ s fun v H1 e1 o1 => hb P σ H1 _ (s.later e1) fun u H2 e2 o2 => ⟨i, j, o1.2.int_inv, o2.2.int_inv, q _ H2 (e1.trans e2) ⟨imm_int _, .int _⟩⟩)
theorem ek_sub {i j : Int} (ha : EK X a G (.im (.int i))) (hb : EK X b G (.im (.int j))) : EK X (.BinOp a .Sub b pos) G (.im (.int (i - j))) := fun P σ H Q s q =>
  to_wE (pe_op op_sub pe_w pe_w) (ha P σ H _ s fun v H1 e1 o1 => hb P σ H1 _ (s.later e1) fun u H2 e2 o2 => ⟨i, j, o1.2.int_inv, o2.2.int_inv, q _ H2 (e1.trans e2) ⟨imm_int _, .int _⟩⟩)
theorem ek_mul {i j : Int} (ha : EK X a G (.im (.int i))) (hb : EK X b G (.im (.int j))) (hc : CMul i j) : EK X (.BinOp a .Mult b pos) G (.im (.int (i * j))) := fun P σ H Q s q =>
  to_wE (pe_op op_mul pe_w pe_w) (ha P σ H _ s fun v H1 e1 o1 => hb P σ H1 _ (s.later e1) fun u H2 e2 o2 => ⟨i, j, o1.2.int_inv, o2.2.int_inv, hc, q _ H2 (e1.trans e2) ⟨imm_int _, .int _⟩⟩)
theorem ek_mod {i j : Int} (ha : EK X a G (.im (.int i))) (hb : EK X b G (.im (.int j))) (hc : 0 < j) : EK X (.BinOp a .Mod b pos) G (.im (.int (i % j))) := fun P σ H Q s q =>
  to_wE (pe_op op_mod pe_w pe_w) (ha P σ H _ s fun v H1 e1 o1 => hb P σ H1 _ (s.later e1) fun u H2 e2 o2 => ⟨i, j, o1.2.int_inv, o2.2.int_inv, hc, q _ H2 (e1.trans e2) ⟨imm_int _, .int _⟩⟩)
theorem ek_fdiv {i j : Int} (ha : EK X a G (.im (.int i))) (hb : EK X b G (.im (.int j))) (hc : CDiv i j) : EK X (.BinOp a .FloorDiv b pos) G (.im (.int (i / j))) := fun P σ H Q s q =>
  to_wE (pe_op op_fdiv pe_w pe_w) (ha P σ H _ s fun v H1 e1 o1 => hb P σ H1 _ (s.later e1) fun u H2 e2 o2 => ⟨i, j, o1.2.int_inv, o2.2.int_inv, hc, q _ H2 (e1.trans e2) ⟨imm_int _, .int _⟩⟩)
theorem ek_pow {i j : Int} (ha : EK X a G (.im (.int i))) (hb : EK X b G (.im (.int j))) (hc : CPow i j) : EK X (.BinOp a .Pow b pos) G (.im (.int (i ^ j.toNat))) := fun P σ H Q s q =>
  to_wE (pe_op op_pow pe_w pe_w) (ha P σ H _ s fun v H1 e1 o1 => hb P σ H1 _ (s.later e1) fun u H2 e2 o2 => ⟨i, j, o1.2.int_inv, o2.2.int_inv, hc, q _ H2 (e1.trans e2) ⟨imm_int _, .int _⟩⟩)
/-- a comparison of two ints -/
theorem ek_cmpI {op : CmpOp} {p : Int → Int → Bool} {i j : Int} (ho : OpR X (compareOp op) (rI0 fun i j => .bl (p i j))) (hm : behindInMarks op b = false) (ha : EK X a G (.im (.int i))) (hb : EK X b G (.im (.int j))) :
    EK X (.Compare a [op] [b] pos) G (.im (.bool (p i j))) := fun P σ H Q s q =>
  to_wE (pe_cmpR ho pe_w pe_w hm) (ha P σ H _ s fun v H1 e1 o1 => hb P σ H1 _ (s.later e1) fun u H2 e2 o2 => ⟨i, j, o1.2.int_inv, o2.2.int_inv, q _ H2 (e1.trans e2) ⟨imm_bool _, .bl _⟩⟩)
theorem tk_cmpI {op : CmpOp} {p : Int → Int → Bool} {i j : Int} (ho : OpR X (compareOp op) (rI0 fun i j => .bl (p i j))) (hm : behindInMarks op b = false) (ha : EK X a G (.im (.int i))) (hb : EK X b G (.im (.int j))) :
    TK X (.Compare a [op] [b] pos) G (p i j) := fun P σ H Q s q =>
  to_wT (pt_cmpR ho pe_w pe_w hm) (ha P σ H _ s fun v H1 e1 o1 => hb P σ H1 _ (s.later e1) fun u H2 e2 o2 => ⟨i, j, o1.2.int_inv, o2.2.int_inv, _, rfl, q H2 (e1.trans e2)⟩)
theorem tk_lt {i j : Int} (ha : EK X a G (.im (.int i))) (hb : EK X b G (.im (.int j))) : TK X (.Compare a [.Lt] [b] pos) G (decide (i < j)) := tk_cmpI op_lt (nomark _) ha hb
theorem tk_gt {i j : Int} (ha : EK X a G (.im (.int i))) (hb : EK X b G (.im (.int j))) : TK X (.Compare a [.Gt] [b] pos) G (decide (j < i)) := tk_cmpI op_gt (nomark _) ha hb
theorem tk_ge {i j : Int} (ha : EK X a G (.im (.int i))) (hb : EK X b G (.im (.int j))) : TK X (.Compare a [.GtE] [b] pos) G (decide (j ≤ i)) := tk_cmpI op_ge (nomark _) ha hb
theorem dec_vint {i j : Int} : decide (V.int i = V.int j) = decide (i = j) := by
  by_cases h : i = j
  · subst h; simp
  · rw [decide_eq_false h, decide_eq_false fun z => h (V.int.inj z)]
/-- == and != of ints -/
theorem ek_eqI {i j : Int} (ha : EK X a G (.im (.int i))) (hb : EK X b G (.im (.int j))) : EK X (.Compare a [.Eq] [b] pos) G (.im (.bool (decide (i = j)))) := fun P σ H Q s q =>
  to_wE (pe_cmpR op_eq pe_w pe_w (nomark _)) (ha P σ H _ s fun v H1 e1 o1 => hb P σ H1 _ (s.later e1) fun u H2 e2 o2 => by
    rw [o1.2.int_inv, o2.2.int_inv]
    refine ⟨rfl, ?_⟩
    rw [dec_vint]
    exact q _ H2 (e1.trans e2) ⟨imm_bool _, .bl _⟩)
theorem tk_eqI {i j : Int} (ha : EK X a G (.im (.int i))) (hb : EK X b G (.im (.int j))) : TK X (.Compare a [.Eq] [b] pos) G (decide (i = j)) := fun P σ H Q s q =>
  to_wT (pt_cmpR op_eq pe_w pe_w (nomark _)) (ha P σ H _ s fun v H1 e1 o1 => hb P σ H1 _ (s.later e1) fun u H2 e2 o2 => by
    rw [o1.2.int_inv, o2.2.int_inv]
    refine ⟨rfl, _, rfl, ?_⟩
    rw [dec_vint]
    exact q H2 (e1.trans e2))
theorem tk_neI {i j : Int} (ha : EK X a G (.im (.int i))) (hb : EK X b G (.im (.int j))) : TK X (.Compare a [.NotEq] [b] pos) G (!decide (i = j)) := fun P σ H Q s q =>
  to_wT (pt_cmpR op_ne pe_w pe_w (nomark _)) (ha P σ H _ s fun v H1 e1 o1 => hb P σ H1 _ (s.later e1) fun u H2 e2 o2 => by
    rw [o1.2.int_inv, o2.2.int_inv]
    refine ⟨rfl, _, rfl, ?_⟩
    rw [dec_vint]
    exact q H2 (e1.trans e2))
/-- low <= v <= high -/
theorem ek_between {i j l : Int} (ha : EK X a G (.im (.int i))) (hb : EK X b G (.im (.int j))) (hc : EK X c G (.im (.int l))) (hm : lastMarks [.LtE, .LtE] [b, c] = false := by rfl) : EK X (.Compare a [.LtE, .LtE] [b, c] pos) G (.im (.bool (decide (i ≤ j) && decide (j ≤ l)))) := fun P σ H Q s q =>
  to_wE (pe_chain op_le op_le pe_w pe_w pe_w (hm := hm)) (ha P σ H _ s fun v H1 e1 o1 => hb P σ H1 _ (s.later e1) fun u H2 e2 o2 => by
    refine ⟨i, j, o1.2.int_inv, o2.2.int_inv, _, rfl, ?_⟩
    cases h : decide (i ≤ j) with
    | true =>
      refine iteT (hc P σ H2 _ (s.later (e1.trans e2)) fun z H3 e3 o3 => ⟨j, l, o2.2.int_inv, o3.2.int_inv, ?_⟩)
      have r := q (.bl (decide (i ≤ j) && decide (j ≤ l))) H3 ((e1.trans e2).trans e3) ⟨imm_bool _, .bl _⟩
      rw [h, Bool.true_and] at r
      exact r
    | false =>
      have r := q (.bl (decide (i ≤ j) && decide (j ≤ l))) H2 (e1.trans e2) ⟨imm_bool _, .bl _⟩
      rw [h, Bool.false_and] at r
      exact iteF r)

/-! ### truth -/
theorem tk_val {t : Bool} (h : EK X e G (.im (.bool t))) (he : ∀ whole, isTrue e X.env whole = (do let v ← whole; standAt e.pos; holding [v] (truthy v)) := by intro _; rfl) : TK X e G t := fun P σ H Q s q =>
  to_wT (pt_val pe_w he) (h P σ H _ s fun v H1 e1 o1 => ⟨t, o1.2.bool_inv, q H1 e1⟩)
theorem tk_not {t : Bool} (h : TK X a G t) : TK X (.UnaryOp .Not a pos) G (!t) := fun P σ H Q s q => to_wT (pt_not pt_w) (h P σ H _ s fun H1 e1 => q H1 e1)
theorem ek_not {t : Bool} (h : EK X a G (.im (.bool t))) : EK X (.UnaryOp .Not a pos) G (.im (.bool (!t))) := fun P σ H Q s q =>
  to_wE (pe_not pe_w) (h P σ H _ s fun v H1 e1 o1 => ⟨t, o1.2.bool_inv, q _ H1 e1 ⟨imm_bool _, .bl _⟩⟩)
theorem ek_one {op : BoolOp} (h : EK X a G k) : EK X (.BoolOp op [a] pos) G k := fun P σ H Q s q => to_wE (pe_one pe_w) (h P σ H Q s q)
theorem ek_and {t u : Bool} {rest : List Expr} (ha : EK X a G (.im (.bool t))) (hb : t = true → EK X (.BoolOp .And (b :: rest) pos) G (.im (.bool u))) : EK X (.BoolOp .And (a :: b :: rest) pos) G (.im (.bool (t && u))) := fun P σ H Q s q =>
  to_wE (pe_and pe_w pe_w) (ha P σ H _ s fun v H1 e1 o1 => by
    refine ⟨t, o1.2.bool_inv, ?_⟩
    cases t with
    | true => exact iteT (hb rfl P σ H1 Q (s.later e1) fun v H2 e2 o2 => q v H2 (e1.trans e2) (o2.sooner e1))
    | false => exact iteF (q _ H1 e1 ⟨imm_bool _, .bl _⟩))
/-- a or b, a or b or c as a test -/
theorem tk_or2 {t u : Bool} {p2 : Pos} (ha : TK X a G t) (hb : t = false → TK X b G u) : TK X (.BoolOp .Or [a, b] pos) G (t || u) := fun P σ H Q s q =>
  to_wT (PW.pt (pw_or pt_w (pw_or1 pt_w))) (ha P σ H _ s fun H1 e1 => by
    cases t with
    | true => exact iteT (q H1 e1)
    | false => exact iteF (hb rfl P σ H1 _ (s.later e1) fun H2 e2 => q H2 (e1.trans e2)))
theorem tk_or3 {t u w : Bool} (ha : TK X a G t) (hb : t = false → TK X b G u) (hc : t = false → u = false → TK X c G w) : TK X (.BoolOp .Or [a, b, c] pos) G (t || (u || w)) := fun P σ H Q s q =>
  to_wT (PW.pt (pw_or pt_w (pw_or pt_w (pw_or1 pt_w)))) (ha P σ H _ s fun H1 e1 => by
    cases t with
    | true => exact iteT (q H1 e1)
    | false => exact iteF (hb rfl P σ H1 _ (s.later e1) fun H2 e2 => by
        cases u with
        | true => exact iteT (q H2 (e1.trans e2))
        | false => exact iteF (hc rfl rfl P σ H2 _ (s.later (e1.trans e2)) fun H3 e3 => q H3 ((e1.trans e2).trans e3))))
/-- a if t else b -/
theorem ek_if {t : Bool} (ht : TK X c G t) (ha : t = true → EK X a G k) (hb : t = false → EK X b G k) : EK X (.IfExp c a b pos) G k := fun P σ H Q s q =>
  to_wE (pe_ifExp pt_w pe_w pe_w) (ht P σ H _ s fun H1 e1 => by
    cases t with
    | true => exact iteT (ha rfl P σ H1 _ (s.later e1) fun v H2 e2 o => q v H2 (e1.trans e2) (o.sooner e1))
    | false => exact iteF (hb rfl P σ H1 _ (s.later e1) fun v H2 e2 o => q v H2 (e1.trans e2) (o.sooner e1)))
/-- is None, is not None -/
theorem tk_isN {d : PyData} {j : Nat} {p2 : Pos} (ha : EK X a G (.im d)) (t : Bool) (ht : t = match d with | .none => true | _ => false) : TK X (.Compare a [.Is] [.Constant .none j p2] pos) G t := fun P σ H Q s q =>
  to_wT (pt_cmp (pc_isN pe_w)) (ha P σ H _ s fun v H1 e1 o1 => by
    refine ⟨t, ?_, q H1 e1⟩
    rw [ht]
    cases o1.2 <;> rfl)
theorem tk_notN {d : PyData} {j : Nat} {p2 : Pos} (ha : EK X a G (.im d)) (t : Bool) (ht : t = match d with | .none => false | _ => true) : TK X (.Compare a [.IsNot] [.Constant .none j p2] pos) G t := fun P σ H Q s q =>
  to_wT (pt_cmp (pc_notN pe_w)) (ha P σ H _ s fun v H1 e1 o1 => by
    refine ⟨t, ?_, q H1 e1⟩
    rw [ht]
    cases o1.2 <;> rfl)

/-! ### data compared -/
def DtK (d : PyData) : Vk → Prop
  | .im d' => d = d'
  | .sl ds => d = .list ds
  | .tl ds => d = .list ds
  | .nl ds => d = .list ds
theorem DtK.dp {K : PySem.W.Frag} {H H' : Hp} {v : V} {d : PyData} {k : Vk} (h : DtK d k) (o : VOk K H H' v k) : Dp K H' v d := by
  cases k with
  | im d' => cases h; exact o.2
  | sl ds => cases h; exact o.2
  | tl ds => cases h; exact (o.weak (.ts)).2
  | nl ds => cases h; exact (o.weak (.ns)).2
theorem tk_eqD {d d' : PyData} {ka kb : Vk} (hu : X.A.units + 64 < cLine) (ha : EK X a G ka) (hb : EK X b G kb) (h1 : DtK d ka) (h2 : DtK d' kb) (s1 : SeqAt.shaped d = true) (s2 : SeqAt.shaped d' = true) :
    TK X (.Compare a [.Eq] [b] pos) G (PyData.eqv d d') := fun P σ H Q s q =>
  to_wT (pt_cmpR (op_eqD hu) pe_w pe_w (nomark _)) (ha P σ H _ s fun v H1 e1 o1 => hb P σ H1 _ (s.later e1) fun u H2 e2 o2 =>
    ⟨d, d', Dp.same e2 _ _ (h1.dp o1), h2.dp o2, s1, s2, _, rfl, q H2 (e1.trans e2)⟩)
theorem ek_eqD {d d' : PyData} {ka kb : Vk} (hu : X.A.units + 64 < cLine) (ha : EK X a G ka) (hb : EK X b G kb) (h1 : DtK d ka) (h2 : DtK d' kb) (s1 : SeqAt.shaped d = true) (s2 : SeqAt.shaped d' = true) :
    EK X (.Compare a [.Eq] [b] pos) G (.im (.bool (PyData.eqv d d'))) := fun P σ H Q s q =>
  to_wE (pe_cmpR (op_eqD hu) pe_w pe_w (nomark _)) (ha P σ H _ s fun v H1 e1 o1 => hb P σ H1 _ (s.later e1) fun u H2 e2 o2 =>
    ⟨d, d', Dp.same e2 _ _ (h1.dp o1), h2.dp o2, s1, s2, q _ H2 (e1.trans e2) ⟨imm_bool _, .bl _⟩⟩)
theorem tk_neD {d d' : PyData} {ka kb : Vk} (hu : X.A.units + 64 < cLine) (ha : EK X a G ka) (hb : EK X b G kb) (h1 : DtK d ka) (h2 : DtK d' kb) (s1 : SeqAt.shaped d = true) (s2 : SeqAt.shaped d' = true) :
    TK X (.Compare a [.NotEq] [b] pos) G (!PyData.eqv d d') := fun P σ H Q s q =>
  to_wT (pt_cmpR (op_neD hu) pe_w pe_w (nomark _)) (ha P σ H _ s fun v H1 e1 o1 => hb P σ H1 _ (s.later e1) fun u H2 e2 o2 =>
    ⟨d, d', Dp.same e2 _ _ (h1.dp o1), h2.dp o2, s1, s2, _, rfl, q H2 (e1.trans e2)⟩)
theorem tk_inD {d : PyData} {ds : List PyData} {ka kb : Vk} (hu : X.A.units + 65 < cLine) (ha : EK X a G ka) (hb : EK X b G kb) (h1 : DtK d ka) (h2 : DtK (.list ds) kb) (s1 : SeqAt.shaped d = true) (s2 : SeqAt.shaped (.list ds) = true) (hm : behindInMarks .In b = false := by rfl) :
    TK X (.Compare a [.In] [b] pos) G (ds.any fun z => PyData.eqv z d) := fun P σ H Q s q =>
  to_wT (pt_cmpR (op_inD hu) pe_w pe_w hm) (ha P σ H _ s fun v H1 e1 o1 => hb P σ H1 _ (s.later e1) fun u H2 e2 o2 =>
    ⟨d, ds, Dp.same e2 _ _ (h1.dp o1), h2.dp o2, s1, s2, _, rfl, q H2 (e1.trans e2)⟩)

/-! ### tuples, lists -/
theorem vs_tup {K : PySem.W.Frag} {H H' : Hp} {vs : List V} : ∀ {ds : List PyData}, VsOk K H H' vs (ds.map Vk.im) → immAll ds = true ∧ DpAll K H' vs ds := by
  intro ds
  induction ds generalizing vs with
  | nil =>
    intro h
    cases h
    exact ⟨immAll_nil, .nil⟩
  | cons d ds ih =>
    intro h
    cases h with
    | cons h1 h2 =>
      obtain ⟨a, b⟩ := ih h2
      exact ⟨immAll_cons h1.1 a, .cons h1.2 b⟩
theorem ek_tup {x1 : Nat} {ds : List PyData} (h : AK X es G ks) (hk : ks = ds.map Vk.im := by rfl) (hl : ds.length ≤ sizeLine := by show (_ : Nat) ≤ sizeLine; decide) : EK X (.Tuple es x1 pos) G (.im (.tuple ds)) := fun P σ H Q s q =>
  to_wE (pe_tup pa_w) (h P σ H _ s fun vs H1 e1 o => by
    subst hk
    obtain ⟨h1, h2⟩ := vs_tup o
    refine ⟨by rw [DpAll.length h2]; exact hl, fun p hp => q _ _ (e1.trans (same_upd hp)) ⟨imm_tuple h1, .tup (SqT.of upd_same) (DpAll.same (same_upd hp) _ _ h2)⟩⟩)
theorem ek_lst {ds : List PyData} (h : AK X es G ks) (hk : ks = ds.map Vk.im := by rfl) (hl : ds.length ≤ sizeLine := by show (_ : Nat) ≤ sizeLine; decide) : EK X (.List es pos) G (.nl ds) := fun P σ H Q s q =>
  to_wE (pe_lst pa_w) (h P σ H _ s fun vs H1 e1 o => by
    subst hk
    obtain ⟨h1, h2⟩ := vs_tup o
    refine ⟨by rw [DpAll.length h2]; exact hl, fun p hp => q _ _ (e1.trans (same_upd hp)) ⟨h1, p, vs, rfl, e1.free hp, upd_same, DpAll.same (same_upd hp) _ _ h2⟩⟩)
theorem at_data {K : PySem.W.Frag} {H : Hp} {xs : List V} {ds : List PyData} {i : Int} {d : PyData} (h : DpAll K H xs ds) (e : atI ds i = some d) : ∃ v, atI xs i = some v ∧ Dp K H v d := by
  unfold atI at e ⊢
  rw [DpAll.length h]
  cases q : ixN ds.length i with
  | none =>
    rw [q] at e
    cases e
  | some j =>
    rw [q] at e
    exact DpAll.get h e
theorem at_imm {ds : List PyData} {i : Int} {d : PyData} (h : immAll ds = true) (e : atI ds i = some d) : imm d = true := by
  unfold atI at e
  cases q : ixN ds.length i with
  | none =>
    rw [q] at e
    cases e
  | some j =>
    rw [q] at e
    exact imm_get h e
theorem ek_ixT {ds : List PyData} {i : Int} {d : PyData} (ha : EK X a G (.im (.tuple ds))) (hb : EK X b G (.im (.int i))) (hi : atI ds i = some d) (hs : PlainIx b := by exact fun _ _ => rfl) : EK X (.Subscript a b pos) G (.im d) := fun P σ H Q s q =>
  to_wE (pe_ix ix_tup pe_w pe_w hs) (ha P σ H _ s fun v H1 e1 o1 => hb P σ H1 _ (s.later e1) fun u H2 e2 o2 => by
    obtain ⟨p, xs, rfl, h1, h2⟩ := (Dp.same e2 _ _ o1.2).tup_inv
    obtain ⟨w, h3, h4⟩ := at_data h2 hi
    exact ⟨p, xs, i, w, rfl, o2.2.int_inv, h1, h3, q w H2 (e1.trans e2) ⟨at_imm (imm_of_tuple o1.1) hi, h4⟩⟩)
theorem ek_ixL {ds : List PyData} {i : Int} {d : PyData} (ha : EK X a G (.sl ds)) (hb : EK X b G (.im (.int i))) (hi : atI ds i = some d) (hs : PlainIx b := by exact fun _ _ => rfl) : EK X (.Subscript a b pos) G (.im d) := fun P σ H Q s q =>
  to_wE (pe_ix ix_list pe_w pe_w hs) (ha P σ H _ s fun v H1 e1 o1 => hb P σ H1 _ (s.later e1) fun u H2 e2 o2 => by
    obtain ⟨p, xs, rfl, h1, h2⟩ := (Dp.same e2 _ _ o1.2).lst_inv
    obtain ⟨w, h3, h4⟩ := at_data h2 hi
    exact ⟨p, xs, i, w, rfl, o2.2.int_inv, h1, h3, q w H2 (e1.trans e2) ⟨at_imm o1.1 hi, h4⟩⟩)
/-- t + u -/
theorem ek_catT {ds es' : List PyData} (ha : EK X a G (.im (.tuple ds))) (hb : EK X b G (.im (.tuple es'))) (hz : ds.length + es'.length ≤ sizeLine) : EK X (.BinOp a .Add b pos) G (.im (.tuple (ds ++ es'))) := fun P σ H Q s q =>
  to_wE (pe_op op_catA pe_w pe_w) (ha P σ H _ s fun v H1 e1 o1 => hb P σ H1 _ (s.later e1) fun u H2 e2 o2 => by
    obtain ⟨p, xs, rfl, h1, h2⟩ := (Dp.same e2 _ _ o1.2).tup_inv
    obtain ⟨p', ys, rfl, h3, h4⟩ := o2.2.tup_inv
    have im : imm (.tuple (ds ++ es')) = true := imm_tuple (immAll_append (imm_of_tuple o1.1) (imm_of_tuple o2.1))
    have fin : ∀ r H3, Same H2 H3 → Dp X.K H3 r (.tuple (ds ++ es')) → Q r H3 := fun r H3 e3 hd => q r H3 ((e1.trans e2).trans e3) ⟨im, hd⟩
    refine ⟨p, p', xs, ys, rfl, rfl, h1, h3, by rw [DpAll.length h2, DpAll.length h4]; exact hz, fun z => ?_, fun z1 z2 => ?_, fun _ _ r hr => ?_⟩
    · subst z
      cases h2
      exact fin _ H2 (Same.refl H2) (.tup h3 h4)
    · subst z2
      cases h4
      rw [List.append_nil] at fin
      exact fin _ H2 (Same.refl H2) (.tup h1 h2)
    · exact fin _ _ (same_upd hr) (.tup (SqT.of upd_same) (DpAll.same (same_upd hr) _ _ (h2.append h4))))
/-- xs + ys -/
theorem ek_catL {ds es' : List PyData} (ha : EK X a G (.tl ds)) (hb : EK X b G (.tl es')) (hz : ds.length + es'.length ≤ sizeLine) : EK X (.BinOp a .Add b pos) G (.nl (ds ++ es')) := fun P σ H Q s q =>
  to_wE (pe_op op_cat pe_w pe_w) (ha P σ H _ s fun v H1 e1 o1 => hb P σ H1 _ (s.later e1) fun u H2 e2 o2 => by
    obtain ⟨i1, p, xs, rfl, h1, h2⟩ := o1
    obtain ⟨i2, p', ys, rfl, h3, h4⟩ := o2
    have h2' := DpAll.same e2 _ _ h2
    refine ⟨p, p', xs, ys, rfl, rfl, e2 _ _ h1, h3, by rw [DpAll.length h2, DpAll.length h4]; exact hz, fun r hr => q _ _ ((e1.trans e2).trans (same_upd hr)) ⟨immAll_append i1 i2, r, _, rfl, (e1.trans e2).free hr, upd_same, DpAll.same (same_upd hr) _ _ (h2'.append h4)⟩⟩)
theorem immAll_rep {ds : List PyData} (h : immAll ds = true) : ∀ n : Nat, immAll (List.replicate n ds).flatten = true
  | 0 => immAll_nil
  | n + 1 => by
    rw [List.replicate_succ, List.flatten_cons]
    exact immAll_append h (immAll_rep h n)
theorem flat_one {α : Type} (d : α) : ∀ n : Nat, (List.replicate n [d]).flatten = List.replicate n d
  | 0 => rfl
  | n + 1 => by
    rw [List.replicate_succ, List.flatten_cons, flat_one d n]
    rfl
/-- [d] * n -/
theorem ek_repL {d : PyData} {n : Nat} (ha : EK X a G (.tl [d])) (hb : EK X b G (.im (.int n))) (hz : n ≤ 1000000) : EK X (.BinOp a .Mult b pos) G (.nl (List.replicate n d)) := fun P σ H Q s q =>
  to_wE (pe_op op_rep pe_w pe_w) (ha P σ H _ s fun v H1 e1 o1 => hb P σ H1 _ (s.later e1) fun u H2 e2 o2 => by
    obtain ⟨i1, p, xs, rfl, h1, h2⟩ := o1
    have h2' := DpAll.same e2 _ _ h2
    have hl := DpAll.length h2
    have hl' : xs.length = 1 := hl
    refine ⟨p, n, xs, rfl, o2.2.int_inv, e2 _ _ h1, by omega, by omega, by rw [hl', Int.toNat_natCast, sizeLine_eq]; omega, fun r hr => q _ _ ((e1.trans e2).trans (same_upd hr)) ⟨?_, r, _, rfl, (e1.trans e2).free hr, upd_same, ?_⟩⟩
    · rw [← flat_one d n]
      exact immAll_rep i1 n
    · rw [Int.toNat_natCast, ← flat_one d n]
      exact DpAll.same (same_upd hr) _ _ (DpAll.rep h2' n))
/-- t[lo:hi] -/
def cutD (ds : List PyData) (lo hi : Option Int) : List PyData := (ds.drop (HT.sIx ds.length 0 lo)).take (HT.sIx ds.length ds.length hi - HT.sIx ds.length 0 lo)
def OK (X : Cx) (e : Option Expr) (G : Cn) (o : Option Int) : Prop := ∃ t, PO X e t ∧ ∀ (P : Hp) (σ : L2.St) (H : Hp) (Q : Option Int → Hp → Prop), Sd X.K P G σ H → (∀ H', Same H H' → Q o H') → t σ H Q
theorem ok_none : OK X none G none := ⟨_, po_none, fun P σ H Q s q => q H (Same.refl H)⟩
theorem ok_some {i : Int} (h : EK X e G (.im (.int i))) : OK X (some e) G (some i) := ⟨_, po_some pe_w, fun P σ H Q s q => h P σ H _ s fun v H1 e1 o => ⟨i, o.2.int_inv, q H1 e1⟩⟩
theorem ek_slT {lo hi : Option Expr} {l u : Option Int} {ds : List PyData} {p2 : Pos} (ha : EK X a G (.im (.tuple ds))) (hl : OK X lo G l) (hh : OK X hi G u) : EK X (.Subscript a (.Slice lo hi none p2) pos) G (.im (.tuple (cutD ds l u))) := fun P σ H Q s q => by
  obtain ⟨tl, pl, ql⟩ := hl
  obtain ⟨tu, pu, qu⟩ := hh
  refine to_wE (pe_slice sl_tupA pe_w pl pu) (ha P σ H _ s fun v H1 e1 o1 => ql P σ H1 _ (s.later e1) fun H2 e2 => qu P σ H2 _ (s.later (e1.trans e2)) fun H3 e3 => ?_)
  obtain ⟨p, xs, rfl, h1, h2⟩ := (Dp.same (e2.trans e3) _ _ o1.2).tup_inv
  have hle := DpAll.length h2
  have im : imm (.tuple (cutD ds l u)) = true := imm_tuple (immAll_iff.mpr fun d hd => immAll_iff.mp (imm_of_tuple o1.1) d (List.mem_of_mem_drop (List.mem_of_mem_take hd)))
  have sub : DpAll X.K H3 (cutV xs l u) (cutD ds l u) := by
    unfold cutV cutD
    rw [hle]
    exact (h2.drop _).take _
  refine ⟨p, xs, rfl, h1, fun w => q _ H3 ((e1.trans e2).trans e3) ⟨im, ?_⟩, fun w r hr => q _ _ (((e1.trans e2).trans e3).trans (same_upd hr)) ⟨im, .tup (SqT.of upd_same) (DpAll.same (same_upd hr) _ _ sub)⟩⟩
  have ew : cutV xs l u = xs := by
    unfold cutV
    rw [w.1, w.2, List.drop_zero, Nat.sub_zero, List.take_length]
  rw [ew] at sub
  exact .tup h1 sub
end
end Bk

set_option Elab.async false
set_option linter.all false
set_option maxRecDepth 100000
namespace Bk
open PySem PySem.Spec PyProof.Rows L2

section
variable {X : Cx} {e a b c : Expr} {es : List Expr} {G G1 G2 : Cn} {k k' ka kb : Vk} {ks : List Vk} {pos p p2 p3 : Pos} {N N1 : Cn → Prop} {R : Vk → Prop} {st : Stmt} {sts body els : List Stmt}
/-! ### blocks -/
theorem sks_nil (h : N G) : SKs X [] G N R := fun P σ H D s g => to_wSs pss_nil (g.1 P G σ H (Same.refl P) h s)
theorem sks_cons (h1 : SK X st G N1 R) (h2 : ∀ G', N1 G' → SKs X sts G' N R) : SKs X (st :: sts) G N R := fun P σ H D s g =>
  to_wSs (pss_cons ps_w pss_w) (h1 P σ H { D with nx := wSs X sts D } s ⟨fun P' G' σ' H' e n s' => h2 G' n P' σ' H' D s' ⟨fun P2 G2 σ2 H2 e2 n2 s2 => g.1 P2 G2 σ2 H2 (e.trans e2) n2 s2, fun v H2 k r e2 o => g.2 v H2 k r (e.trans e2) (o.sooner e)⟩, g.2⟩)
theorem sks_eq (h1 : SK X st G (fun G' => G' = G1) R) (h2 : SKs X sts G1 N R) : SKs X (st :: sts) G N R := sks_cons h1 fun G' e => e ▸ h2
theorem sks_one (h1 : SK X st G N R) : SKs X [st] G N R := fun P σ H D s g => to_wSs (pss_one ps_w) (h1 P σ H D s g)
theorem SK.weak (h : SK X st G N1 R) (hn : ∀ G', N1 G' → N G') : SK X st G N R := fun P σ H D s g => h P σ H D s ⟨fun P' G' σ' H' e n s' => g.1 P' G' σ' H' e (hn G' n) s', g.2⟩

/-! ### small statements -/
theorem sk_setI (i : Nat) {x : Str} {pos' : Pos} {d : PyData} (he : EK X e G (.im d)) (hN : X.N.Nodup) (hi : X.N[i]? = some x := by rfl) (hx : Loc X.env.scope x := by first | exact Or.inl rfl | exact Or.inr rfl) (hlt : Nat.ble (i + 1) G.length = true := by rfl)
    (hs : swapsWith e (some (.Name x pos')) pos.line X.env = pure false := by rfl) (hf : X.fn x = true ∨ X.env.scope.names.lookup x = some .local := by first | exact .inl rfl | exact .inr rfl) :
    SK X (.Assign [.Name x pos'] e pos) G (fun G' => G' = G.set i (.im d)) R := fun P σ H D s g =>
  to_wS (ps_set (i := i) hN hi hx pe_w hs hf) (he P σ H _ s fun v H1 e1 o => g.1 P _ _ H1 (Same.refl P) rfl ((s.later e1).putIm (Nat.le_of_ble_eq_true hlt) o))
theorem sk_setN (i : Nat) {x : Str} {pos' : Pos} {ds : List PyData} (he : EK X e G (.nl ds)) (hN : X.N.Nodup) (hi : X.N[i]? = some x := by rfl) (hx : Loc X.env.scope x := by first | exact Or.inl rfl | exact Or.inr rfl) (hlt : Nat.ble (i + 1) G.length = true := by rfl)
    (hs : swapsWith e (some (.Name x pos')) pos.line X.env = pure false := by rfl) (hf : X.fn x = true ∨ X.env.scope.names.lookup x = some .local := by first | exact .inl rfl | exact .inr rfl) :
    SK X (.Assign [.Name x pos'] e pos) G (fun G' => G' = G.set i (.ml ds)) R := fun P σ H D s g =>
  to_wS (ps_set (i := i) hN hi hx pe_w hs hf) (he P σ H _ s fun v H1 e1 o => g.1 P _ _ H1 (Same.refl P) rfl (s.putNl e1 (Nat.le_of_ble_eq_true hlt) o))
theorem sk_ret (he : EK X e G k) (hr : R k) : SK X (.Return (some e) pos) G N R := fun P σ H D s g =>
  to_wS (ps_ret pe_w) (he P σ H _ s fun v H1 e1 o => g.2 v H1 k hr (s.same.trans e1) (o.sooner s.same))
theorem sk_retM (i : Nat) {x : Str} {ds : List PyData} (hG : G[i]? = some (.ml ds)) (hr : R (.nl ds)) (hN : X.N[i]? = some x := by rfl) (hv : Vis X.env.scope x := by first | exact Or.inl rfl | exact Or.inr (Or.inl rfl) | exact Or.inr (Or.inr rfl))
    (hd : (x == ("__debug__" : Str)) = false := by decide) (hcd : (x == ("__classdict__" : Str)) = false := by decide) : SK X (.Return (some (.Name x p)) pos) G N R := fun P σ H D s g => by
  obtain ⟨a, xs, h1, h2, h3, h4, h5⟩ := s.ml hG
  exact to_wS (ps_ret (pe_var hN hv hd hcd)) ⟨_, h1, g.2 _ H _ hr s.same ⟨h2, a, xs, rfl, h3, h4, h5⟩⟩
theorem sk_expr (he : EK X e G k) (hs : swapsWith e none pos.line X.env = pure false := by rfl) : SK X (.Expr e pos) G (fun G' => G' = G) R := fun P σ H D s g =>
  to_wS (ps_expr pe_w hs) (he P σ H _ s fun v H1 e1 o => g.1 P G σ H1 (Same.refl P) rfl (s.later e1))
theorem sk_if {t : Bool} (ht : TK X c G t) (h1 : t = true → SKs X body G N R) (h2 : t = false → SKs X els G N R) : SK X (.If c body els pos) G N R := fun P σ H D s g =>
  to_wS (ps_if pt_w pss_w pss_w) (ht P σ H _ s fun H1 e1 => by
    have g' : Goes X.K P H1 D N R := g
    cases t with
    | true => exact iteT (h1 rfl P σ H1 D (s.later e1) g')
    | false => exact iteF (h2 rfl P σ H1 D (s.later e1) g'))
/-- if c: (it leaves) -/
theorem sks_ifret {t : Bool} (ht : TK X c G t) (h1 : t = true → SKs X body G (fun _ => False) R) (h2 : t = false → SKs X sts G N R) : SKs X (.If c body [] pos :: sts) G N R :=
  sks_cons (N1 := fun G' => t = false ∧ G' = G) (sk_if ht (fun q P σ H D s g => h1 q P σ H D s ⟨fun _ _ _ _ _ z => z.elim, g.2⟩) fun q => sks_nil ⟨q, rfl⟩) fun G' z => by
    obtain ⟨q, rfl⟩ := z
    exact h2 q
/-- a, b = e -/
theorem sk_unpack2 (i j : Nat) {x y : Str} {px py pt : Pos} {kt : Nat} {d d' : PyData} (he : EK X e G (.im (.tuple [d, d']))) (hN : X.N.Nodup) (hc : X.calm = true := by rfl) (hi : X.N[i]? = some x := by rfl) (hj : X.N[j]? = some y := by rfl)
    (hx : Loc X.env.scope x := by first | exact Or.inl rfl | exact Or.inr rfl) (hy : Loc X.env.scope y := by first | exact Or.inl rfl | exact Or.inr rfl) (hlt : Nat.ble (i + 1) G.length = true := by rfl) (hlt2 : Nat.ble (j + 1) G.length = true := by rfl)
    (hfx : X.fn x = true ∨ X.env.scope.names.lookup x = some .local := by first | exact .inl rfl | exact .inr rfl) (hfy : X.fn y = true ∨ X.env.scope.names.lookup y = some .local := by first | exact .inl rfl | exact .inr rfl)
    (hs : swapsWithSole [.Tuple [.Name x px, .Name y py] kt pt] e pos.line X.env = pure false := by rfl) (hw : swappedStores [.Tuple [.Name x px, .Name y py] kt pt] e X.env = pure none := by rfl)
    (h1 : (assignEach [.Tuple [.Name x px, .Name y py] kt pt] X.env).map (·.2) = [assign (.Tuple [.Name x px, .Name y py] kt pt) X.env] := by rfl)
    (hn : (assignEach [.Name x px, .Name y py] X.env).length = 2 := by rfl) (hst : (assignEach [.Name x px, .Name y py] X.env).findIdx? (·.1) = none := by rfl)
    (hq1 : (assignEach [.Name x px, .Name y py] X.env).map (·.2) = assign (.Name x px) X.env :: (assignEach [.Name y py] X.env).map (·.2) := by rfl) (hq2 : (assignEach [.Name y py] X.env).map (·.2) = assign (.Name y py) X.env :: (assignEach [] X.env).map (·.2) := by rfl) :
    SK X (.Assign [.Tuple [.Name x px, .Name y py] kt pt] e pos) G (fun G' => G' = (G.set i (.im d)).set j (.im d')) R := fun P σ H D s g =>
  to_wS (ps_asg pe_w (pg_tup hc (pgs_cons (pg_name hN hi hx hfx) (pgs_cons (pg_name hN hj hy hfy) pgs_nil hq2) hq1) hn hst) hs hw h1) (he P σ H _ s fun v H1 e1 o => by
    obtain ⟨q, xs, rfl, h2, h3⟩ := o.2.tup_inv
    have im := imm_of_tuple o.1
    have i1 : imm d = true := immAll_iff.mp im d (by simp)
    have i2 : imm d' = true := immAll_iff.mp im d' (by simp)
    cases h3 with
    | cons r1 h4 =>
      cases h4 with
      | cons r2 h5 =>
        cases h5
        refine ⟨q, _, rfl, h2, rfl, _, _, rfl, _, _, rfl, rfl, g.1 P _ _ H1 (Same.refl P) rfl ?_⟩
        exact ((s.later e1).putIm (Nat.le_of_ble_eq_true hlt) ⟨i1, r1⟩).putIm (by rw [List.length_set]; exact Nat.le_of_ble_eq_true hlt2) ⟨i2, r2⟩)
/-- xs.append(e) -/
theorem sk_app (i : Nat) {x : Str} {ds : List PyData} {d : PyData} (he : EK X e G (.im d)) (hG : G[i]? = some (.ml ds)) (hz : ds.length < sizeLine) (hN : X.N[i]? = some x := by rfl) (hv : Vis X.env.scope x := by first | exact Or.inl rfl | exact Or.inr (Or.inl rfl) | exact Or.inr (Or.inr rfl))
    (hd : (x == ("__debug__" : Str)) = false := by decide) (hcd : (x == ("__classdict__" : Str)) = false := by decide)
    (hbase : attributeBase (.Name x p) "append" X.env (eval (.Name x p) X.env) = eval (.Name x p) X.env := by rfl)
    (hfew : ((backTo p3 (starEach (e :: []) X.env)).all (fun x => !x.1) && (backToKw p3 (keywordEach [] X.env)).all (fun x => x.1.isSome)
      && decide ((e :: []).length + ([] : List Keyword).length + (if ([] : List Keyword).isEmpty then 0 else 1) < 30)) = true := by rfl)
    (hline : (p2.endLine == p3.line) = true := by rfl) (hs : starEach (e :: []) X.env = (false, eval e X.env) :: starEach [] X.env := by rfl)
    (hsw : swapsWith (.Call (.Attribute (.Name x p) "append" p2) [e] [] p3) none pos.line X.env = pure false := by rfl) :
    SK X (.Expr (.Call (.Attribute (.Name x p) "append" p2) [e] [] p3) pos) G (fun G' => G' = G.set i (.ml (ds ++ [d]))) R := fun P σ H D s g => by
  obtain ⟨a, xs, h1, h2, h3, h4, h5⟩ := s.ml hG
  refine to_wS (ps_expr (pe_bm PySem.F.plainAttrs_list PySem.F.slot_list_append PySem.F.type_list_append mt_append (pe_var hN hv hd hcd) (pa_cons pe_w pa_nil hs) hbase hfew hline hs rfl) hsw)
    ⟨_, h1, .inl ⟨rfl, _, .inl (.inl h4)⟩, he P σ H _ s fun v H1 e1 o => ⟨a, xs, v, rfl, rfl, e1 _ _ h4, by rw [DpAll.length h5]; exact hz, ?_⟩⟩
  exact g.1 P _ σ _ (Same.refl P) rfl ((s.later e1).write hG h1 (e1 _ _ h4) (immAll_append h2 (immAll_cons o.1 immAll_nil)) ((DpAll.same e1 _ _ h5).append (.cons o.2 .nil)))
/-- xs.extend(e) -/
theorem sk_ext (i : Nat) {x : Str} {ds es' : List PyData} (he : EK X e G (.nl es')) (hG : G[i]? = some (.ml ds)) (hz : ds.length + es'.length ≤ sizeLine) (hN : X.N[i]? = some x := by rfl) (hv : Vis X.env.scope x := by first | exact Or.inl rfl | exact Or.inr (Or.inl rfl) | exact Or.inr (Or.inr rfl))
    (hd : (x == ("__debug__" : Str)) = false := by decide) (hcd : (x == ("__classdict__" : Str)) = false := by decide)
    (hbase : attributeBase (.Name x p) "extend" X.env (eval (.Name x p) X.env) = eval (.Name x p) X.env := by rfl)
    (hfew : ((backTo p3 (starEach (e :: []) X.env)).all (fun x => !x.1) && (backToKw p3 (keywordEach [] X.env)).all (fun x => x.1.isSome)
      && decide ((e :: []).length + ([] : List Keyword).length + (if ([] : List Keyword).isEmpty then 0 else 1) < 30)) = true := by rfl)
    (hline : (p2.endLine == p3.line) = true := by rfl) (hs : starEach (e :: []) X.env = (false, eval e X.env) :: starEach [] X.env := by rfl)
    (hsw : swapsWith (.Call (.Attribute (.Name x p) "extend" p2) [e] [] p3) none pos.line X.env = pure false := by rfl) :
    SK X (.Expr (.Call (.Attribute (.Name x p) "extend" p2) [e] [] p3) pos) G (fun G' => G' = G.set i (.ml (ds ++ es'))) R := fun P σ H D s g => by
  obtain ⟨a, xs, h1, h2, h3, h4, h5⟩ := s.ml hG
  refine to_wS (ps_expr (pe_bm PySem.F.plainAttrs_list PySem.F.slot_list_extend PySem.F.type_list_extend mt_extend (pe_var hN hv hd hcd) (pa_cons pe_w pa_nil hs) hbase hfew hline hs rfl) hsw)
    ⟨_, h1, .inl ⟨rfl, _, .inl (.inl h4)⟩, he P σ H _ s fun v H1 e1 o => ?_⟩
  obtain ⟨i2, b, ys, rfl, _, h6, h7⟩ := o
  refine ⟨a, b, xs, ys, rfl, rfl, e1 _ _ h4, h6, by rw [DpAll.length h5, DpAll.length h7]; exact hz, ?_⟩
  exact g.1 P _ σ _ (Same.refl P) rfl ((s.later e1).write hG h1 (e1 _ _ h4) (immAll_append h2 i2) ((DpAll.same e1 _ _ h5).append h7))
/-- a, b = x, y -/
theorem sk_parII (i j : Nat) {x y : Str} {px py pt : Pos} {kt k2 : Nat} {pt2 : Pos} {d d' : PyData} (ha : EK X a G (.im d)) (hb : EK X b G (.im d')) (hij : i ≠ j) (hN : X.N.Nodup) (hc : X.calm = true := by rfl) (hi : X.N[i]? = some x := by rfl) (hj : X.N[j]? = some y := by rfl)
    (hx : X.env.scope.names.lookup x = some .local := by rfl) (hy : X.env.scope.names.lookup y = some .local := by rfl) (hlt : Nat.ble (i + 1) G.length = true := by rfl) (hlt2 : Nat.ble (j + 1) G.length = true := by rfl)
    (hw : swappedStores [.Tuple [.Name x px, .Name y py] kt pt] (.Tuple [a, b] k2 pt2) X.env = pure (some [x, y]) := by rfl)
    (hs : swapsWithSole [.Tuple [.Name x px, .Name y py] kt pt] (.Tuple [a, b] k2 pt2) pos.line X.env = pure false := by rfl)
    (hs1 : starEach [a, b] X.env = (false, eval a X.env) :: starEach [b] X.env := by rfl) (hs2 : starEach [b] X.env = (false, eval b X.env) :: starEach [] X.env := by rfl) :
    SK X (.Assign [.Tuple [.Name x px, .Name y py] kt pt] (.Tuple [a, b] k2 pt2) pos) G (fun G' => G' = (G.set i (.im d)).set j (.im d')) R := fun P σ H D s g =>
  to_wS (ps_par hc hN hi hj hij hx hy (pa_cons pe_w (pa_cons pe_w pa_nil hs2) hs1) hw hs) (ha P σ H _ s fun v H1 e1 o1 => hb P σ H1 _ (s.later e1) fun u H2 e2 o2 => ⟨v, u, rfl, g.1 P _ _ H2 (Same.refl P) rfl
    (((s.later (e1.trans e2)).putIm (Nat.le_of_ble_eq_true hlt) ⟨o1.1, Dp.same e2 _ _ o1.2⟩).putIm (by rw [List.length_set]; exact Nat.le_of_ble_eq_true hlt2) o2)⟩)
theorem sk_parNI (i j : Nat) {x y : Str} {px py pt : Pos} {kt k2 : Nat} {pt2 : Pos} {ds : List PyData} {d' : PyData} (ha : EK X a G (.nl ds)) (hb : EK X b G (.im d')) (hij : i ≠ j) (hN : X.N.Nodup) (hc : X.calm = true := by rfl) (hi : X.N[i]? = some x := by rfl) (hj : X.N[j]? = some y := by rfl)
    (hx : X.env.scope.names.lookup x = some .local := by rfl) (hy : X.env.scope.names.lookup y = some .local := by rfl) (hlt : Nat.ble (i + 1) G.length = true := by rfl) (hlt2 : Nat.ble (j + 1) G.length = true := by rfl)
    (hw : swappedStores [.Tuple [.Name x px, .Name y py] kt pt] (.Tuple [a, b] k2 pt2) X.env = pure (some [x, y]) := by rfl)
    (hs : swapsWithSole [.Tuple [.Name x px, .Name y py] kt pt] (.Tuple [a, b] k2 pt2) pos.line X.env = pure false := by rfl)
    (hs1 : starEach [a, b] X.env = (false, eval a X.env) :: starEach [b] X.env := by rfl) (hs2 : starEach [b] X.env = (false, eval b X.env) :: starEach [] X.env := by rfl) :
    SK X (.Assign [.Tuple [.Name x px, .Name y py] kt pt] (.Tuple [a, b] k2 pt2) pos) G (fun G' => G' = (G.set i (.ml ds)).set j (.im d')) R := fun P σ H D s g =>
  to_wS (ps_par hc hN hi hj hij hx hy (pa_cons pe_w (pa_cons pe_w pa_nil hs2) hs1) hw hs) (ha P σ H _ s fun v H1 e1 o1 => hb P σ H1 _ (s.later e1) fun u H2 e2 o2 => ⟨v, u, rfl, g.1 P _ _ H2 (Same.refl P) rfl
    ((s.putNl (e1.trans e2) (Nat.le_of_ble_eq_true hlt) (o1.later e2)).putIm (by rw [List.length_set]; exact Nat.le_of_ble_eq_true hlt2) o2)⟩)

/-! ### what is walked -/
def ItOk (K : PySem.W.Frag) (P' : Hp) (J : It) (ds : List PyData) : Prop :=
  ∃ Gd : Hp → Prop, (∀ H, Same P' H → Gd H) ∧ Walk J ds.length Gd (fun i H x H' => Same H H' ∧ ∃ d, ds[i]? = some d ∧ imm d = true ∧ (Same P' H → Dp K H' x d))
theorem ItOk.mono {K : PySem.W.Frag} {P P' : Hp} {J : It} {ds : List PyData} (h : ItOk K P J ds) (e : Same P P') : ItOk K P' J ds := by
  obtain ⟨Gd, h1, w⟩ := h
  refine ⟨Gd, fun H q => h1 H (e.trans q), w.mono (fun _ q => q) fun i H x H' _ _ y => ?_⟩
  obtain ⟨y1, d, y2, y3, y4⟩ := y
  exact ⟨y1, d, y2, y3, fun q => y4 (e.trans q)⟩
def IK (X : Cx) (tg iter : Expr) (G G1 : Cn) (ds : List PyData) : Prop := ∀ (P : Hp) (σ : L2.St) (H : Hp) (Q : It → Hp → Prop), Sd X.K P G σ H →
  (∀ P' J H', Same P P' → Sd X.K P' G1 σ H' → Same H H' → ItOk X.K P' J ds → Q J H') → wI X tg iter σ H Q
section
variable {tg : Expr} {ds : List PyData}
theorem itOk_tup {K : PySem.W.Frag} {P : Hp} {q : Addr} {xs : List V} (h1 : SqT K P q xs) (h2 : DpAll K P xs ds) (h3 : immAll ds = true) : ItOk K P (Itt K q) ds := by
  refine ⟨fun H => SqT K H q xs, fun H e => Tst.same e _ _ h1, ?_⟩
  rw [← DpAll.length h2]
  refine walk_tup.mono (fun _ z => z) fun i H x H' hi _ y => ?_
  obtain ⟨rfl, y⟩ := y
  obtain ⟨d, hd, hv⟩ := h2.getV y
  exact ⟨Same.refl _, d, hd, imm_get h3 hd, fun e => Dp.same e _ _ hv⟩
theorem itOk_lst {K : PySem.W.Frag} {P : Hp} {q : Addr} {xs : List V} (h1 : SqL K P q xs) (h2 : DpAll K P xs ds) (h3 : immAll ds = true) : ItOk K P (Itl K q) ds := by
  refine ⟨fun H => SqL K H q xs, fun H e => e.seq h1, ?_⟩
  rw [← DpAll.length h2]
  refine walk_list.mono (fun _ z => z) fun i H x H' hi _ y => ?_
  obtain ⟨rfl, y⟩ := y
  obtain ⟨d, hd, hv⟩ := h2.getV y
  exact ⟨Same.refl _, d, hd, imm_get h3 hd, fun e => Dp.same e _ _ hv⟩
theorem ik_tup (h : EK X e G (.im (.tuple ds))) : IK X tg e G G ds := fun P σ H Q s q =>
  to_wI (pi_tup pe_w) (h P σ H _ s fun v H1 e1 o => by
    obtain ⟨b, xs, rfl, h1, h2⟩ := o.2.tup_inv
    have s1 := s.later e1
    have t := prot_ts (K := X.K) s1.same
    have im := imm_of_tuple o.1
    exact ⟨b, rfl, ⟨xs, h1⟩, q (prot P H1) (Itt X.K b) H1 prot_same s1.prot e1 (itOk_tup (t _ _ h1) (DpAll.keep t _ _ im h2) im)⟩)
/-- P, all tuples of H, and the list at a -/
theorem keepL {K : PySem.W.Frag} {P H : Hp} {q : Addr} {xs : List V} {σ : L2.St} (s : Sd K P G σ H) (hp : P q = none) (hq : H q = some (.lst xs)) (hn : ∀ (i : Nat) (ds : List PyData), G[i]? = some (.ml ds) → σ[i]? ≠ some (some (.ref q))) :
    Same P (upd (prot P H) q (.lst xs)) ∧ Sd K (upd (prot P H) q (.lst xs)) G σ H ∧ SqL K (upd (prot P H) q (.lst xs)) q xs ∧ Tst K H (upd (prot P H) q (.lst xs)) := by
  have pn : prot P H q = none := prot_none hp hq
  have e1 : Same (prot P H) (upd (prot P H) q (.lst xs)) := same_upd pn
  have e2 : Same (upd (prot P H) q (.lst xs)) H := fun b o z => by
    by_cases hb : b = q
    · subst hb
      rw [upd_same] at z
      cases z
      exact hq
    · rw [upd_ne hb] at z
      exact prot_le s.same b o z
  refine ⟨prot_same.trans e1, s.more (prot_same.trans e1) e2 fun i es r h1 h2 => ?_, SqL.of upd_same, Tst.trans (prot_ts s.same) (Tst.same e1)⟩
  obtain ⟨b, ys, q1, _, q3, q4, _⟩ := s.ml h1
  rw [h2] at q1
  cases q1
  have hne : r ≠ q := fun z => hn i es h1 (by rw [h2, z])
  rw [upd_ne hne]
  exact prot_none q3 q4
theorem ik_nl (h : EK X e G (.nl ds)) : IK X tg e G G ds := fun P σ H Q s q =>
  to_wI (pi_list pe_w) (h P σ H _ s fun v H1 e1 o => by
    obtain ⟨im, b, xs, rfl, h0, h1, h2⟩ := o
    have s1 := s.later e1
    obtain ⟨k1, k2, k3, k4⟩ := keepL s1 (s.same.free h0) h1 fun i es hg hσ => by
      obtain ⟨b', ys, q1, _, _, q4, _⟩ := s.ml hg
      rw [hσ] at q1
      cases q1
      rw [h0] at q4
      cases q4
    exact ⟨b, rfl, ⟨xs, SqL.of h1⟩, q _ (Itl X.K b) H1 k1 k2 e1 (itOk_lst k3 (DpAll.keep k4 _ _ im h2) im)⟩)
theorem ik_rl (i : Nat) {x : Str} (hG : G[i]? = some (.rl ds) := by rfl) (hN : X.N[i]? = some x := by rfl) (hv : Vis X.env.scope x := by first | exact Or.inl rfl | exact Or.inr (Or.inl rfl) | exact Or.inr (Or.inr rfl))
    (hd : (x == ("__debug__" : Str)) = false := by decide) (hcd : (x == ("__classdict__" : Str)) = false := by decide) : IK X tg (.Name x pos) G G ds := fun P σ H Q s q => by
  obtain ⟨b, xs, h1, im, h3, h4⟩ := s.slot i _ hG
  exact to_wI (pi_list (pe_var hN hv hd hcd)) ⟨_, h1, b, rfl, ⟨xs, s.same.seq h3⟩, q P _ H (Same.refl P) s (Same.refl H) (itOk_lst h3 h4 im)⟩
theorem ik_ml (i : Nat) {x : Str} (hG : G[i]? = some (.ml ds) := by rfl) (hN : X.N[i]? = some x := by rfl) (hv : Vis X.env.scope x := by first | exact Or.inl rfl | exact Or.inr (Or.inl rfl) | exact Or.inr (Or.inr rfl))
    (hd : (x == ("__debug__" : Str)) = false := by decide) (hcd : (x == ("__classdict__" : Str)) = false := by decide) : IK X tg (.Name x pos) G (G.set i (.rl ds)) ds := fun P σ H Q s q => by
  obtain ⟨b, xs, h1, im, h3, h4, h5⟩ := s.ml hG
  have hlt : i < G.length := by
    obtain ⟨h, _⟩ := List.getElem?_eq_some_iff.mp hG
    exact h
  obtain ⟨k1, k2, k3, k4⟩ := keepL (s.forget i) h3 h4 fun j es hg hσ => by
    by_cases e : i = j
    · subst e
      rw [List.getElem?_set_self hlt] at hg
      cases hg
    · rw [List.getElem?_set_ne e] at hg
      exact s.dis i j ds es b e hG hg h1 hσ
  have dk := DpAll.keep k4 _ _ im h5
  have s2 : Sd X.K (upd (prot P H) b (.lst xs)) (G.set i (.rl ds)) σ H := by
    have es : σ.set i (some (.ref b)) = σ := by
      have hl := s.lt hG
      apply List.ext_getElem?
      intro j
      by_cases e : i = j
      · subst e
        rw [List.getElem?_set_self hl, h1]
      · rw [List.getElem?_set_ne e]
    have z := k2.put (i := i) (v := .ref b) (k := .rl ds) (by rw [List.length_set]; exact hlt) ⟨b, xs, rfl, im, k3, dk⟩ fun _ e => by cases e
    rw [es, List.set_set] at z
    exact z
  exact to_wI (pi_list (pe_var hN hv hd hcd)) ⟨_, h1, b, rfl, ⟨xs, SqL.of h4⟩, q _ _ H k1 s2 (Same.refl H) (itOk_lst k3 dk im)⟩
def upto (n : Nat) : List PyData := (List.range n).map fun i => .int (i : Nat)
theorem upto_length (n : Nat) : (upto n).length = n := by unfold upto; rw [List.length_map, List.length_range]
theorem upto_get {n i : Nat} {d : PyData} (h : (upto n)[i]? = some d) : d = .int (i : Nat) ∧ i < n := by
  unfold upto at h
  rw [List.getElem?_map] at h
  by_cases hi : i < n
  · rw [List.getElem?_range hi] at h
    exact ⟨(Option.some.inj h).symm, hi⟩
  · rw [List.getElem?_eq_none (by rw [List.length_range]; omega)] at h
    cases h
theorem ik_range {n : Nat} (h : EK X e G (.im (.int (n : Nat)))) (hm : X.mg "range" = none) (hz : n ≤ 1000000) (hg : Gl X "range" := by rfl) (hs : starEach [e] X.env = [(false, eval e X.env)] := by rfl) :
    IK X tg (.Call (.Name "range" p) [e] [] pos) G G (upto n) := fun P σ H Q s q =>
  to_wI (pi_range1 hg hm (pa_cons pe_w pa_nil hs) hs) (h P σ H _ s fun v H1 e1 o => by
    refine ⟨n, by rw [o.2.int_inv], by omega, by omega, q P _ H1 (Same.refl P) (s.later e1) e1 ⟨fun _ => True, fun _ _ => trivial, ?_⟩⟩
    rw [upto_length, Int.toNat_natCast]
    refine walk_range.mono (fun _ z => z) fun i H x H' hi _ y => ?_
    obtain ⟨rfl, rfl⟩ := y
    refine ⟨Same.refl _, .int (i : Nat), ?_, imm_int _, fun _ => ?_⟩
    · unfold upto
      rw [List.getElem?_map, List.getElem?_range hi]
      rfl
    · show Dp X.K _ (V.int (0 + (i : Int))) _
      rw [Int.zero_add]
      exact .int _)
end

/-! ### targets -/
inductive Tg where
  | one (i : Nat)
  | two (i j : Nat)
def Tg.put (G : Cn) : Tg → PyData → Option Cn
  | .one i, d => some (G.set i (.im d))
  | .two i j, .tuple [d, d'] => some ((G.set i (.im d)).set j (.im d'))
  | .two _ _, _ => none
def Tg.in_ (ws : List Nat) : Tg → Bool
  | .one i => ws.contains i
  | .two i j => ws.contains i && ws.contains j
def GK (X : Cx) (tg : Expr) (T : Tg) : Prop := ∀ (P : Hp) (G G' : Cn) (σ : L2.St) (H : Hp) (v : V) (d : PyData) (Q : L2.St → Hp → Prop), Sd X.K P G σ H → T.put G d = some G' → imm d = true → Dp X.K H v d →
  (∀ σ', Sd X.K P G' σ' H → (∀ vs, T.in_ vs = true → L2.wipe σ' vs = L2.wipe σ vs) → Q σ' H) → wG X tg v σ H Q
theorem set_ge {α : Type} {l : List α} {i : Nat} {x : α} (h : l.length ≤ i) : l.set i x = l := List.set_eq_of_length_le h
theorem gk_one (i : Nat) {x : Str} (hN : X.N.Nodup) (hlt : Nat.ble (i + 1) X.N.length = true) (hi : X.N[i]? = some x := by rfl) (hx : Loc X.env.scope x := by first | exact Or.inl rfl | exact Or.inr rfl)
    (hf : X.fn x = true ∨ X.env.scope.names.lookup x = some .local := by first | exact .inl rfl | exact .inr rfl) : GK X (.Name x pos) (.one i) := fun P G G' σ H v d Q s hp im hd q => by
  refine to_wG (pg_name hN hi hx hf) (q _ ?_ fun vs h => wipe_set (List.contains_iff_mem.mp h))
  cases hp
  by_cases hlt : i < G.length
  · exact s.putIm hlt ⟨im, hd⟩
  · rw [set_ge (by omega), set_ge (by rw [s.len]; omega)]
    exact s
theorem gk_two (i j : Nat) {x y : Str} {px py : Pos} {kt : Nat} (hN : X.N.Nodup) (hc : X.calm = true := by rfl) (hi : X.N[i]? = some x := by rfl) (hj : X.N[j]? = some y := by rfl)
    (hx : Loc X.env.scope x := by first | exact Or.inl rfl | exact Or.inr rfl) (hy : Loc X.env.scope y := by first | exact Or.inl rfl | exact Or.inr rfl)
    (hfx : X.fn x = true ∨ X.env.scope.names.lookup x = some .local := by first | exact .inl rfl | exact .inr rfl) (hfy : X.fn y = true ∨ X.env.scope.names.lookup y = some .local := by first | exact .inl rfl | exact .inr rfl)
    (hn : (assignEach [.Name x px, .Name y py] X.env).length = 2 := by rfl) (hst : (assignEach [.Name x px, .Name y py] X.env).findIdx? (·.1) = none := by rfl)
    (hq1 : (assignEach [.Name x px, .Name y py] X.env).map (·.2) = assign (.Name x px) X.env :: (assignEach [.Name y py] X.env).map (·.2) := by rfl) (hq2 : (assignEach [.Name y py] X.env).map (·.2) = assign (.Name y py) X.env :: (assignEach [] X.env).map (·.2) := by rfl) :
    GK X (.Tuple [.Name x px, .Name y py] kt pos) (.two i j) := fun P G G' σ H v d Q s hp im hd q => by
  unfold Tg.put at hp
  split at hp
  · rename_i h0
    cases h0
  · rename_i d1 d2 h1
    cases h1
    cases hp
    obtain ⟨r, xs, rfl, h2, h3⟩ := hd.tup_inv
    have im' := imm_of_tuple im
    have i1 : imm d1 = true := immAll_iff.mp im' d1 (by simp)
    have i2 : imm d2 = true := immAll_iff.mp im' d2 (by simp)
    cases h3 with
    | cons r1 h4 =>
      cases h4 with
      | cons r2 h5 =>
        cases h5
        refine to_wG (pg_tup hc (pgs_cons (pg_name hN hi hx hfx) (pgs_cons (pg_name hN hj hy hfy) pgs_nil hq2) hq1) hn hst) ⟨r, _, rfl, h2, rfl, _, _, rfl, _, _, rfl, rfl, q _ ?_ fun vs h => ?_⟩
        · have put1 : ∀ {G : Cn} {σ : L2.St} {i : Nat} {v : V} {d : PyData}, Sd X.K P G σ H → imm d = true → Dp X.K H v d → Sd X.K P (G.set i (.im d)) (σ.set i (some v)) H := fun {G σ i v d} s im hd => by
            by_cases hlt : i < G.length
            · exact s.putIm hlt ⟨im, hd⟩
            · rw [set_ge (by omega), set_ge (by rw [s.len]; omega)]
              exact s
          exact put1 (put1 s i1 r1) i2 r2
        · have h' : vs.contains i = true ∧ vs.contains j = true := by simpa only [Tg.in_, Bool.and_eq_true] using h
          rw [wipe_set (List.contains_iff_mem.mp h'.2), wipe_set (List.contains_iff_mem.mp h'.1)]
  · cases hp

/-! ### for -/
theorem sk_for {tg iter : Expr} {ds : List PyData} {T : Tg} (I : Nat → Cn → Prop) (hi : IK X tg iter G G1 ds) (hg : GK X tg T) (h0 : I 0 G1)
    (step : ∀ (i : Nat) (d : PyData) (G : Cn), ds[i]? = some d → I i G → ∃ G', T.put G d = some G' ∧ SKs X body G' (I (i + 1)) R) (done : ∀ G, I ds.length G → N G)
    (hp : PassesOwn (model X.prog X.w) X.A X.env X.xe := by exact PassesOwn.never) (hc : X.calm = true := by rfl) (hs : ∀ x, foldedSetIterable iter X.env x = pure x := by intro _; rfl) : SK X (.For tg iter body [] pos) G N R := fun P σ H D s g =>
  to_wS (ps_for hp hc pi_w pg_w pss_w hs) (hi P σ H _ s fun P1 J H1 e1 s1 eh it => by
    obtain ⟨Gd, w1, w⟩ := it
    refine for_it w (fun i σ H => ∃ G P', Same P1 P' ∧ I i G ∧ Sd X.K P' G σ H) ⟨G1, P1, Same.refl P1, h0, s1⟩ (fun i σ H _ ⟨G, P', q1, _, q3⟩ => w1 H (q1.trans q3.same)) (fun i x σ H H' hlt ⟨G, P', q1, q2, q3⟩ y => ?_) fun σ H ⟨G, P', q1, q2, q3⟩ => g.1 P' G σ H (e1.trans q1) (done G q2) q3
    obtain ⟨y1, d, y2, y3, y4⟩ := y
    obtain ⟨G', hput, hb⟩ := step i d G y2 q2
    refine hg P' G G' σ H' x d _ (q3.later y1) hput y3 (y4 (q1.trans q3.same)) fun σ' s' _ => ?_
    exact hb P' σ' H' _ s' ⟨fun P2 G2 σ2 H2 e2 n2 s2 => ⟨G2, P2, q1.trans e2, n2, s2⟩, fun v H2 k r e2 o => g.2 v H2 k r ((e1.trans q1).trans e2) (o.sooner (e1.trans q1))⟩)
end
end Bk

set_option Elab.async false
set_option linter.all false
set_option maxRecDepth 100000
namespace Bk
open PySem PySem.Spec PyProof.Rows L2

/-! ### comprehensions -/
def wTs (X : Cx) (ifs : List Expr) : TT := fun σ H Q => ∀ (pins : List (Addr × Obj)) (s : Shared), Inv X pins σ H s →
  wpAny (model X.prog X.w) X.A (forIn ifs true fun c r => if r = true then do let ok ← isTrue c X.env (eval c X.env); pure (ForInStep.yield ok) else pure (ForInStep.yield r)) (TP X pins σ Q) X.xe s
theorem pts_w {X : Cx} {ifs : List Expr} : PTs X ifs (wTs X ifs) := ⟨fun pins s σ H Q I h => h pins s I⟩
def TsK (X : Cx) (ifs : List Expr) (G : Cn) (b : Bool) : Prop := ∀ (P : Hp) (σ : L2.St) (H : Hp) (Q : Bool → Hp → Prop), Sd X.K P G σ H → (∀ H', Same H H' → Q b H') → wTs X ifs σ H Q
section
variable {X : Cx} {e a b c elt tg iter tg1 iter1 : Expr} {es ifs : List Expr} {G G1 G2 : Cn} {k k' ka kb : Vk} {ks : List Vk} {pos p p2 p3 : Pos} {N N1 : Cn → Prop} {R : Vk → Prop} {st : Stmt} {sts body els : List Stmt} {scope : Scope} {own : List (Str × Nat)} {ds : List PyData} {T T1 : Tg}
theorem tsk_nil : TsK X [] G true := fun P σ H Q s q pins st I => pts_nil.run pins st σ H Q I (q H (Same.refl H))
theorem tsk_one {t : Bool} (h : TK X c G t) : TsK X [c] G t := fun P σ H Q s q pins st I => (pts_one pt_w).run pins st σ H Q I (h P σ H Q s q)
abbrev bX (X : Cx) (scope : Scope) (s : Shared) (H : Hp) (C : Addr) (cl : List (Str × Addr)) (fp : List Addr) : Cx := X.blk s H scope (compEnvC scope cl C X.env) fp
def uE (X : Cx) (scope : Scope) (e : Expr) : TE := fun σ H Q => ∀ s H0 C cl fp, wE (bX X scope s H0 C cl fp) e σ H Q
def uG (X : Cx) (scope : Scope) (e : Expr) : TG := fun v σ H Q => ∀ s H0 C cl fp, wG (bX X scope s H0 C cl fp) e v σ H Q
def uTs (X : Cx) (scope : Scope) (ifs : List Expr) : TT := fun σ H Q => ∀ s H0 C cl fp, wTs (bX X scope s H0 C cl fp) ifs σ H Q
def uI (X : Cx) (scope : Scope) (tg iter : Expr) : TI := fun σ H Q => ∀ s H0 C cl fp, wI (bX X scope s H0 C cl fp) tg iter σ H Q
theorem pe_u {s : Shared} {H0 : Hp} {C : Addr} {cl : List (Str × Addr)} {fp : List Addr} : PE (bX X scope s H0 C cl fp) e (uE X scope e) := ⟨fun pins st σ H Q I h => h s H0 C cl fp pins st I⟩
theorem pg_u {s : Shared} {H0 : Hp} {C : Addr} {cl : List (Str × Addr)} {fp : List Addr} : PG (bX X scope s H0 C cl fp) e (uG X scope e) := ⟨fun pins st σ H v u Q I r h => h s H0 C cl fp pins st u I r⟩
theorem pts_u {s : Shared} {H0 : Hp} {C : Addr} {cl : List (Str × Addr)} {fp : List Addr} : PTs (bX X scope s H0 C cl fp) ifs (uTs X scope ifs) := ⟨fun pins st σ H Q I h => h s H0 C cl fp pins st I⟩
theorem pi_u {s : Shared} {H0 : Hp} {C : Addr} {cl : List (Str × Addr)} {fp : List Addr} : PI (bX X scope s H0 C cl fp) tg iter (uI X scope tg iter) := ⟨fun pins st σ H R I h => h s H0 C cl fp pins st I⟩
theorem take_filterMap {α : Type} {l : List α} {g : α → Option PyData} {i : Nat} {a : α} (h : l[i]? = some a) : (l.take (i + 1)).filterMap g = (l.take i).filterMap g ++ (match g a with | some r => [r] | none => []) := by
  have e : l.take (i + 1) = l.take i ++ [a] := by
    rw [List.take_add_one, h]
    rfl
  rw [e, List.filterMap_append]
  cases hc : g a with
  | some r => simp [hc]
  | none => simp [hc]
theorem map_at {α : Type} {l : List α} {en : α → PyData} {i : Nat} {d : PyData} (h : (l.map en)[i]? = some d) : ∃ a, l[i]? = some a ∧ d = en a := by
  rw [List.getElem?_map] at h
  cases q : l[i]? with
  | none =>
    rw [q] at h
    cases h
  | some a =>
    rw [q] at h
    exact ⟨a, rfl, (Option.some.inj h).symm⟩
/-- what one turn of a comprehension does: over l, written as data by en; g: what is kept -/
structure LcT (X : Cx) (scope : Scope) (own : List (Str × Nat)) (tg elt : Expr) (ifs : List Expr) (T : Tg) (G : Cn) {α : Type} (l : List α) (en : α → PyData) (g : α → Option PyData) : Prop where
  ok : BlkOk X.N X.env.scope scope own
  inn : T.in_ (own.map (·.2)) = true
  tgt : ∀ (s : Shared) (H : Hp) (C : Addr) (cl : List (Str × Addr)) (fp : List Addr), GK (bX X scope s H C cl fp) tg T
  turn : ∀ a ∈ l, ∃ G', T.put (wipeG (G.map dem) (own.map (·.2))) (en a) = some G' ∧ (∀ (s : Shared) (H : Hp) (C : Addr) (cl : List (Str × Addr)) (fp : List Addr), TsK (bX X scope s H C cl fp) ifs G' (g a).isSome) ∧
    (∀ r, g a = some r → ∀ (s : Shared) (H : Hp) (C : Addr) (cl : List (Str × Addr)) (fp : List Addr), EK (bX X scope s H C cl fp) elt G' (.im r))
  size : l.length < sizeLine
theorem lc_run {α : Type} {l : List α} {en : α → PyData} {g : α → Option PyData} (L : LcT X scope own tg elt ifs T G l en g) (hi : IK X tg iter G G1 (l.map en)) {P : Hp} {σ : L2.St} {H : Hp} {Q : VK} (s : Sd X.K P G σ H)
    (q : ∀ v H', Same H H' → VOk X.K H H' v (.nl (l.filterMap g)) → Q v H') : tLc (wI X tg iter) (uG X scope tg) (uTs X scope ifs) (uE X scope elt) (own.map (·.2)) σ H Q :=
  hi P σ H _ s fun P1 J H1 e1 s1 eh it => by
    intro D hD
    obtain ⟨Gd, w1, w⟩ := it.mono s1.same
    rw [List.length_map] at w
    have sH := (s.later eh).still
    refine lc_it w (fun i H => ∃ xs, H D = some (.lst xs) ∧ immAll ((l.take i).filterMap g) = true ∧ DpAll X.K H xs ((l.take i).filterMap g) ∧ Same H1 H)
      ⟨[], upd_same, immAll_nil, .nil, same_upd hD⟩ (fun i H _ ⟨_, _, _, _, h⟩ => w1 H h) (fun i x H2 H3 hlt hp y => ?_) fun H2 hp => ?_
    · obtain ⟨xs, p1, p2, p3, p4⟩ := hp
      obtain ⟨y1, d, y2, y3, y4⟩ := y
      obtain ⟨a, ya, rfl⟩ := map_at y2
      obtain ⟨G', hput, ht, he⟩ := L.turn a (List.mem_of_getElem? ya)
      have e3 : Same H1 H3 := p4.trans y1
      have sW := (sH.later e3).wipe (own.map (·.2))
      intro s0 H0 C cl fp
      refine L.tgt s0 H0 C cl fp H1 _ G' _ H3 x (en a) _ sW hput y3 (y4 p4) fun σ' s' hw => ⟨?_, ?_⟩
      · rw [hw _ L.inn, wipe_twice fun i hi => hi]
      · intro s0 H0 C cl fp
        refine ht s0 H0 C cl fp H1 σ' H3 _ s' fun H4 e4 => ?_
        have keep : ∀ {H5}, Same H4 H5 → H5 D = some (.lst xs) ∧ DpAll X.K H5 xs ((l.take i).filterMap g) ∧ Same H1 H5 := fun {H5} e5 =>
          ⟨e5 _ _ (e4 _ _ (y1 _ _ p1)), DpAll.same ((y1.trans e4).trans e5) _ _ p3, (e3.trans e4).trans e5⟩
        cases hc : g a with
        | some r =>
          refine iteT ?_
          intro s0 H0 C cl fp
          refine he r hc s0 H0 C cl fp H1 σ' H4 _ (s'.later e4) fun v H5 e5 o => ?_
          obtain ⟨k1, k2, k3⟩ := keep e5
          have hl := DpAll.length k2
          have hle : ((l.take i).filterMap g).length ≤ i := Nat.le_trans (List.length_filterMap_le _ _) (by rw [List.length_take]; exact Nat.min_le_left _ _)
          have hz := L.size
          refine ⟨xs, k1, by omega, xs ++ [v], upd_same, ?_, ?_, Same.write k3 hD⟩
          · rw [take_filterMap ya, hc]
            exact immAll_append p2 (immAll_cons o.1 immAll_nil)
          · rw [take_filterMap ya, hc]
            have t := Tst.write (K := X.K) (ys := xs ++ [v]) k1
            exact (DpAll.keep t _ _ p2 k2).append (.cons (Dp.keep t _ _ o.1 o.2) .nil)
        | none =>
          refine iteF ?_
          obtain ⟨k1, k2, k3⟩ := keep (Same.refl H4)
          refine ⟨xs, k1, ?_, ?_, k3⟩
          · rw [take_filterMap ya, hc, List.append_nil]
            exact p2
          · rw [take_filterMap ya, hc, List.append_nil]
            exact k2
    · obtain ⟨xs, p1, p2, p3, p4⟩ := hp
      rw [List.take_length] at p2 p3
      exact q (.ref D) H2 (eh.trans p4) ⟨p2, D, xs, rfl, eh.free hD, p1, p3⟩
theorem ek_lc {α : Type} {l : List α} {en : α → PyData} {g : α → Option PyData} (hi : IK X tg iter G G1 (l.map en)) (hN : X.N.Nodup) (L : LcT X scope own tg elt ifs T G l en g) (hc : X.calm = true := by rfl) (hs : ∀ x, foldedSetIterable iter X.env x = pure x := by intro _; rfl) :
    EK X (.ListComp elt [⟨tg, iter, ifs, 0⟩] scope pos) G (.nl (l.filterMap g)) := fun P σ H Q s q =>
  to_wE (pe_lc hc hN pi_w L.ok (fun _ _ _ _ _ => pg_u) (fun _ _ _ _ _ => pts_u) (fun _ _ _ _ _ => pe_u) hs) (lc_run L hi s q)
/-- x = [..] -/
theorem sk_setLc (i : Nat) {y : Str} {py spos : Pos} {α : Type} {l : List α} {en : α → PyData} {g : α → Option PyData} (hi : IK X tg iter G G1 (l.map en)) (hN : X.N.Nodup) (L : LcT X scope own tg elt ifs T G l en g) (hsw : swapsWith (.ListComp elt [⟨tg, iter, ifs, 0⟩] scope pos) (some (.Name y py)) spos.line X.env = pure true)
    (hy : X.N[i]? = some y := by rfl) (hyl : X.env.scope.names.lookup y = some .local := by rfl) (hlt : Nat.ble (i + 1) G.length = true := by rfl) (hc : X.calm = true := by rfl) (hs : ∀ x, foldedSetIterable iter X.env x = pure x := by intro _; rfl) :
    SK X (.Assign [.Name y py] (.ListComp elt [⟨tg, iter, ifs, 0⟩] scope pos) spos) G (fun G' => G' = G.set i (.ml (l.filterMap g))) R := fun P σ H D s g' =>
  to_wS (ps_setLc (i := i) hc hN hy hyl hsw pi_w L.ok (fun _ _ _ _ _ => pg_u) (fun _ _ _ _ _ => pts_u) (fun _ _ _ _ _ => pe_u) hs) (lc_run (Q := fun x H1 => gName i x σ H1 D.nx) L hi s fun v H1 e1 o => g'.1 P _ _ H1 (Same.refl P) rfl (s.putNl e1 (Nat.le_of_ble_eq_true hlt) o))
theorem yes_if {σ : L2.St} {H : Hp} {A B : Hp → Prop} (h : A H) : tYes σ H (fun b H' => if b = true then A H' else B H') := by
  unfold tYes
  exact iteT h
def NoMl (G : Cn) : Prop := ∀ (i : Nat) (es : List PyData), G[i]? ≠ some (.ml es)
theorem noml_set {G : Cn} (h : NoMl G) (j : Nat) {k : Kd} (hk : ∀ es, k ≠ .ml es) : NoMl (G.set j k) := fun i es z => by
  by_cases e : j = i
  · subst e
    by_cases hl : j < G.length
    · rw [List.getElem?_set_self hl] at z
      exact hk es (Option.some.inj z)
    · rw [List.getElem?_eq_none (by rw [List.length_set]; omega)] at z
      cases z
  · rw [List.getElem?_set_ne e] at z
    exact h i es z
theorem noml_dem (G : Cn) : NoMl (G.map dem) := fun i es z => by
  rw [List.getElem?_map] at z
  cases q : G[i]? with
  | none =>
    rw [q] at z
    cases z
  | some k =>
    rw [q] at z
    cases k <;> cases z
theorem noml_wipe {G : Cn} (h : NoMl G) : ∀ vs, NoMl (wipeG G vs)
  | [] => h
  | v :: vs => noml_set (noml_wipe h vs) v fun _ z => by cases z
theorem noml_put {G G' : Cn} {T : Tg} {d : PyData} (h : NoMl G) (e : T.put G d = some G') : NoMl G' := by
  unfold Tg.put at e
  split at e
  · cases e
    exact noml_set h _ fun _ z => by cases z
  · cases e
    exact noml_set (noml_set h _ fun _ z => by cases z) _ fun _ z => by cases z
  · cases e
def PvL (K : PySem.W.Frag) (D : Addr) (H1 : Hp) (l : List PyData) (H : Hp) : Prop := ∃ xs, H D = some (.lst xs) ∧ immAll l = true ∧ DpAll K H xs l ∧ Same H1 H
/-- [elt for .. in .. for .. in a new list] -/
theorem ek_lc2 {α β : Type} {l : List α} {en : α → PyData} {enB : β → PyData} {vs1 : List Nat} {fs : α → List β} {f : α → β → PyData} (hi : IK X tg iter G G1 (l.map en)) (hN : X.N.Nodup) (ok : BlkOk X.N X.env.scope scope own) (hv : ∀ i ∈ vs1, i ∈ own.map (·.2)) (inn : T.in_ (own.map (·.2)) = true) (inn1 : T1.in_ vs1 = true)
    (tgt : ∀ (s : Shared) (H : Hp) (C : Addr) (cl : List (Str × Addr)) (fp : List Addr), GK (bX X scope s H C cl fp) tg T) (tgt1 : ∀ (s : Shared) (H : Hp) (C : Addr) (cl : List (Str × Addr)) (fp : List Addr), GK (bX X scope s H C cl fp) tg1 T1)
    (turn : ∀ d ∈ l, ∃ G', T.put (wipeG (G.map dem) (own.map (·.2))) (en d) = some G' ∧ (∀ (s : Shared) (H : Hp) (C : Addr) (cl : List (Str × Addr)) (fp : List Addr), EK (bX X scope s H C cl fp) iter1 G' (.nl ((fs d).map enB))) ∧
      ∀ e ∈ fs d, ∃ G'', T1.put (wipeG G' vs1) (enB e) = some G'' ∧ ∀ (s : Shared) (H : Hp) (C : Addr) (cl : List (Str × Addr)) (fp : List Addr), EK (bX X scope s H C cl fp) elt G'' (.im (f d e)))
    (hz : (l.flatMap fun d => (fs d).map (f d)).length < sizeLine) (hc : X.calm = true := by rfl) (hs : ∀ x, foldedSetIterable iter X.env x = pure x := by intro _; rfl) (hs1 : ∀ env x, foldedSetIterable iter1 env x = pure x := by intro _ _; rfl) :
    EK X (.ListComp elt [⟨tg, iter, [], 0⟩, ⟨tg1, iter1, [], 0⟩] scope pos) G (.nl (l.flatMap fun d => (fs d).map (f d))) := fun P σ H Q s q =>
  to_wE (pe_lc2 (ifs := []) (ifs1 := []) (wi1 := uI X scope tg1 iter1) hc hN pi_w ok hv (fun _ _ _ _ _ => pg_u) (fun _ _ _ _ _ => pts_nil) (fun _ _ _ _ _ => pi_u) (fun _ _ _ _ _ => pg_u) (fun _ _ _ _ _ => pts_nil) (fun _ _ _ _ _ => pe_u) hs hs1) (hi P σ H _ s fun P1 J H1 e1 s1 eh it => by
    intro D hD
    obtain ⟨Gd, w1, w⟩ := it.mono s1.same
    rw [List.length_map] at w
    have sH := (s.later eh).still
    have lenle : ∀ (i : Nat) (d : α) (j : Nat), l[i]? = some d → j ≤ (fs d).length → ((l.take i).flatMap fun d => (fs d).map (f d)).length + j ≤ (l.flatMap fun d => (fs d).map (f d)).length := fun i d j hd hj => by
      have e : l = l.take i ++ d :: l.drop (i + 1) := by
        have h1 := (List.take_append_drop i l).symm
        rw [List.drop_eq_getElem?_toList_append, hd] at h1
        simpa using h1
      conv => rhs; rw [e, List.flatMap_append, List.flatMap_cons, List.length_append, List.length_append, List.length_map]
      omega
    have ext : ∀ {H2 : Hp} {l1 : List PyData} {v : V} {d : PyData}, PvL X.K D H1 l1 H2 → l1.length < sizeLine → imm d = true → Dp X.K H2 v d → ∃ acc, H2 D = some (.lst acc) ∧ acc.length < sizeLine ∧ PvL X.K D H1 (l1 ++ [d]) (upd H2 D (.lst (acc ++ [v]))) := fun {H2 l1 v d} p hl im hd => by
      obtain ⟨xs, p1, p2, p3, p4⟩ := p
      have t := Tst.write (K := X.K) (ys := xs ++ [v]) p1
      exact ⟨xs, p1, by rw [DpAll.length p3]; exact hl, _, upd_same, immAll_append p2 (immAll_cons im immAll_nil), (DpAll.keep t _ _ p2 p3).append (.cons (Dp.keep t _ _ im hd) .nil), Same.write p4 hD⟩
    refine ⟨fun i m H => m = l.length - i ∧ i ≤ l.length ∧ PvL X.K D H1 ((l.take i).flatMap fun d => (fs d).map (f d)) H, ⟨_, rfl, Nat.zero_le _, [], upd_same, immAll_nil, .nil, same_upd hD⟩, ?_⟩
    rintro i m H2 ⟨rfl, hle, hp⟩
    have hp' := hp
    obtain ⟨xs, p1, p2, p3, p4⟩ := hp'
    by_cases hlt : i < l.length
    · refine .inr ⟨w.goes i H2 hlt (w1 H2 p4), fun H3 => PvL X.K D H1 ((l.take (i + 1)).flatMap fun d => (fs d).map (f d)) H3, fun H3 q3 => ⟨l.length - (i + 1), by omega, rfl, hlt, q3⟩, fun x H3 y => ?_⟩
      obtain ⟨y1, dd, yd, y3, y4⟩ := w.yields i H2 x H3 hlt (w1 H2 p4) y
      obtain ⟨d, y2, rfl⟩ := map_at yd
      obtain ⟨G', hput, he1, hrow⟩ := turn d (List.mem_of_getElem? y2)
      have e3 : Same H1 H3 := p4.trans y1
      have sW := (sH.later e3).wipe (own.map (·.2))
      have noml : ∀ (i : Nat) (es' : List PyData), G'[i]? ≠ some (.ml es') := noml_put (noml_wipe (noml_dem G) _) hput
      intro s0 H0 C cl fp
      refine tgt s0 H0 C cl fp H1 _ G' _ H3 x (en d) _ sW hput y3 (y4 p4) fun σ' s' hw => ⟨?_, ?_⟩
      · rw [hw _ inn, wipe_twice fun i hi => hi]
      refine yes_if ?_
      intro s0 H0 C cl fp
      refine to_wI (pi_list pe_w) (he1 s0 H0 C cl fp H1 σ' H3 _ s' fun v H4 e4 o => ?_)
      obtain ⟨im, b, ys, rfl, h0, h1, h2⟩ := o
      have hbD : b ≠ D := fun z => by
        rw [z, y1 _ _ p1] at h0
        cases h0
      refine ⟨b, rfl, ⟨ys, SqL.of h1⟩, fun j k H5 => k = (fs d).length - j ∧ j ≤ (fs d).length ∧ PvL X.K D H1 (((l.take i).flatMap fun d => (fs d).map (f d)) ++ ((fs d).take j).map (f d)) H5 ∧ H5 b = some (.lst ys) ∧ DpAll X.K H5 ys ((fs d).map enB) ∧ Tst X.K H3 H5, ⟨_, rfl, Nat.zero_le _, ⟨xs, e4 _ _ (y1 _ _ p1), by rw [List.take_zero, List.map_nil, List.append_nil]; exact p2, by rw [List.take_zero, List.map_nil, List.append_nil]; exact DpAll.same (y1.trans e4) _ _ p3, e3.trans e4⟩, h1, h2, Tst.same e4⟩, ?_⟩
      rintro j k H5 ⟨rfl, hj, pv, hb, hy, ht⟩
      have hyl := DpAll.length hy
      rw [List.length_map] at hyl
      by_cases hjl : j < (fs d).length
      · have gj : ys[j]? = some (ys[j]'(by omega)) := List.getElem?_eq_getElem (by omega)
        refine .inr ⟨⟨ys, _, SqL.of hb, gj⟩, fun H6 => PvL X.K D H1 (((l.take i).flatMap fun d => (fs d).map (f d)) ++ ((fs d).take (j + 1)).map (f d)) H6 ∧ H6 b = some (.lst ys) ∧ DpAll X.K H6 ys ((fs d).map enB) ∧ Tst X.K H3 H6, fun H6 z => ⟨(fs d).length - (j + 1), by omega, rfl, hjl, z.1, z.2.1, z.2.2.1, z.2.2.2⟩, fun x1 H6 yy => ?_⟩
        obtain ⟨rfl, yy⟩ := yy
        have ex := yy ys (SqL.of hb)
        obtain ⟨ee, hee, hde⟩ := hy.getV ex
        obtain ⟨e, he, rfl⟩ := map_at hee
        obtain ⟨G'', hput2, hel⟩ := hrow e (List.mem_of_getElem? he)
        obtain ⟨zs, _, _, _, p4'⟩ := id pv
        have sW2 : Sd X.K H1 (wipeG G' vs1) (L2.wipe σ' vs1) H6 := by
          have z1 : Sd X.K H1 G' σ' H3 := s'
          refine Sd.wipe ?_ vs1
          exact ⟨z1.len, p4', fun a k hk => by
            have z := z1.slot a k hk
            cases k with
            | no => trivial
            | at_ v => exact z
            | im d' =>
              obtain ⟨v, z2, z3, z4⟩ := z
              exact ⟨v, z2, z3, Dp.keep ht d' v z3 z4⟩
            | rl es' => exact z
            | ml es' => exact absurd hk (noml a es'), z1.dis⟩
        intro s0 H0 C cl fp
        refine tgt1 s0 H0 C cl fp H1 _ G'' _ H6 x1 (enB e) _ sW2 hput2 (imm_get im hee) hde fun σ3 s3 hw3 => ⟨?_, ?_⟩
        · rw [hw3 _ inn1, wipe_twice fun i hi => hi]
        refine yes_if ?_
        intro s0 H0 C cl fp
        refine hel s0 H0 C cl fp H1 σ3 H6 _ s3 fun v7 H7 e7 o7 => ?_
        obtain ⟨xs7, q1, q2, q3, q4⟩ := pv
        have lt7 : (((l.take i).flatMap fun d => (fs d).map (f d)) ++ ((fs d).take j).map (f d)).length < sizeLine := by
          have z := lenle i d j y2 (by omega)
          rw [List.length_append, List.length_map, List.length_take]
          omega
        obtain ⟨acc, r1, r2, r3⟩ := ext (v := v7) (d := f d e) ⟨xs7, e7 _ _ q1, q2, DpAll.same e7 _ _ q3, q4.trans e7⟩ lt7 o7.1 o7.2
        have t := Tst.write (K := X.K) (ys := acc ++ [v7]) r1
        refine ⟨acc, r1, r2, ?_, by rw [upd_ne hbD]; exact e7 _ _ hb, DpAll.keep t _ _ im (DpAll.same e7 _ _ hy), Tst.trans ht (Tst.trans (Tst.same e7) t)⟩
        have e8 : ((fs d).take (j + 1)).map (f d) = ((fs d).take j).map (f d) ++ [f d e] := by
          rw [List.take_add_one, he, List.map_append]
          rfl
        rw [e8, ← List.append_assoc]
        exact r3
      · refine .inl ⟨⟨ys, SqL.of hb, by omega⟩, ?_⟩
        have e8 : (l.take (i + 1)).flatMap (fun d => (fs d).map (f d)) = ((l.take i).flatMap fun d => (fs d).map (f d)) ++ ((fs d).take j).map (f d) := by
          have e9 : (fs d).take j = fs d := List.take_of_length_le (by omega)
          rw [List.take_add_one, y2, List.flatMap_append, e9]
          simp
        show PvL X.K D H1 _ H5
        rw [e8]
        exact pv
    · have e : i = l.length := by omega
      subst e
      refine .inl ⟨w.stops H2 (w1 H2 p4), ?_⟩
      rw [List.take_length] at p2 p3
      exact q (.ref D) H2 (eh.trans p4) ⟨p2, D, xs, rfl, eh.free hD, p1, p3⟩)
end

/-! ### calls of defs -/
def Vk.flat : Vk → Bool
  | .im _ => true
  | .sl _ => true
  | _ => false
/-- a promise by data: the arguments' kinds, the answer's -/
def Prm (K : PySem.W.Frag) {α : Type} (pre : α → Prop) (ks : α → List Vk) (r : α → Vk) : Sp := fun vs H Q _ => ∃ a : α, pre a ∧ VsOk K H H vs (ks a) ∧ ∀ v H', Same H H' → VOk K H H' v (r a) → Q v H'
theorem VsOk.here {K : PySem.W.Frag} {H0 H H' : Hp} {vs : List V} {ks : List Vk} (h : VsOk K H0 H' vs ks) (f : ks.all Vk.flat = true) : VsOk K H H' vs ks := by
  induction h with
  | nil => exact .nil
  | @cons v vs k ks a _ ih =>
    rw [List.all_cons, Bool.and_eq_true] at f
    refine .cons ?_ (ih f.2)
    cases k with
    | im d => exact a
    | sl ds => exact a
    | tl ds => exact absurd f.1 Bool.false_ne_true
    | nl ds => exact absurd f.1 Bool.false_ne_true
section
variable {X : Cx} {e a b c : Expr} {es : List Expr} {G : Cn} {k ka kb : Vk} {pos p : Pos}
theorem ek_call {α : Type} {pre : α → Prop} {ks : α → List Vk} {r : α → Vk} {n : Nat} {f : Addr} {fd : FuncData} {ps : List Str} {x : Str} (F : FnOk X.prog X.w X.K X.mg X.base CX0 n f fd ps (Prm X.K pre ks r)) (hr : Room n X.A) (hm : X.mg x = some (.ref f)) (hk : PySem.W.keepIn X.K (.ref f) = true)
    (hb : Binds X.K fd ps []) (a : α) (hp : pre a) (hA : AK X (e :: es) G (ks a)) (hf : (ks a).all Vk.flat = true := by rfl) (hg : Gl X x := by rfl) (hdb : (x == ("__debug__" : Str)) = false := by decide)
    (he : starEach (e :: es) X.env = (false, eval e X.env) :: starEach es X.env := by rfl) (hpl : (backTo pos (starEach es X.env)).any (·.1) = false := by rfl) : EK X (.Call (.Name x p) (e :: es) [] pos) G (r a) := fun P σ H Q s q =>
  to_wE (pe_call F hr hg hm hk hb .nil pass0 pa_w hdb he hpl) (hA P σ H _ s fun vs H1 e1 o => by
    refine ⟨a, hp, ?_, fun v H2 e2 o2 => q v H2 (e1.trans e2) (o2.sooner e1)⟩
    rw [List.append_nil]
    exact o.here hf)
/-! ### built-ins -/
theorem ek_lenT {ds : List PyData} (h : EK X a G (.im (.tuple ds))) (hm : X.mg "len" = none) (hg : Gl X "len" := by rfl) (he : starEach (a :: []) X.env = (false, eval a X.env) :: starEach [] X.env := by rfl) (hpl : (backTo pos (starEach [] X.env)).any (·.1) = false := by rfl) :
    EK X (.Call (.Name "len" p) [a] [] pos) G (.im (.int (ds.length : Nat))) := fun P σ H Q s q =>
  to_wE (pe_callB call_len_seq hg hm PySem.boot_len (pa_cons pe_w pa_nil he) (by decide) (by decide) he hpl) (h P σ H _ s fun v H1 e1 o => by
    obtain ⟨b, xs, rfl, h1, h2⟩ := o.2.tup_inv
    refine ⟨b, xs, rfl, .inr h1, ?_⟩
    rw [DpAll.length h2]
    exact q _ H1 e1 ⟨imm_int _, .int _⟩)
theorem ek_lenL {ds : List PyData} (h : EK X a G (.sl ds)) (hm : X.mg "len" = none) (hg : Gl X "len" := by rfl) (he : starEach (a :: []) X.env = (false, eval a X.env) :: starEach [] X.env := by rfl) (hpl : (backTo pos (starEach [] X.env)).any (·.1) = false := by rfl) :
    EK X (.Call (.Name "len" p) [a] [] pos) G (.im (.int (ds.length : Nat))) := fun P σ H Q s q =>
  to_wE (pe_callB call_len_seq hg hm PySem.boot_len (pa_cons pe_w pa_nil he) (by decide) (by decide) he hpl) (h P σ H _ s fun v H1 e1 o => by
    obtain ⟨b, xs, rfl, h1, h2⟩ := o.2.lst_inv
    refine ⟨b, xs, rfl, .inl h1, ?_⟩
    rw [DpAll.length h2]
    exact q _ H1 e1 ⟨imm_int _, .int _⟩)
theorem ek_sum {ns : List Int} (h : EK X a G (.sl (ns.map PyData.int))) (hm : X.mg "sum" = none) (hc : X.calm = true := by rfl) (hg : Gl X "sum" := by rfl) (he : starEach (a :: []) X.env = (false, eval a X.env) :: starEach [] X.env := by rfl) (hpl : (backTo pos (starEach [] X.env)).any (·.1) = false := by rfl) :
    EK X (.Call (.Name "sum" p) [a] [] pos) G (.im (.int ns.sum)) := fun P σ H Q s q =>
  to_wE (pe_callB (cr_sum hc) hg hm (by decide +kernel) (pa_cons pe_w pa_nil he) (by decide) (by decide) he hpl) (h P σ H _ s fun v H1 e1 o => by
    obtain ⟨b, xs, rfl, h1, h2⟩ := o.2.lst_inv
    rw [DpAll.ints h2] at h1
    exact ⟨b, ns, rfl, h1, q _ H1 e1 ⟨imm_int _, .int _⟩⟩)
theorem ek_tupL {ds : List PyData} (h : EK X a G (.sl ds)) (hm : X.mg "tuple" = none) (hg : Gl X "tuple" := by rfl) (he : starEach [a] X.env = (false, eval a X.env) :: starEach [] X.env := by rfl) :
    EK X (.Call (.Name "tuple" p) [a] [] pos) G (.im (.tuple ds)) := fun P σ H Q s q =>
  to_wE (pe_tupleOf hg hm pe_w he) (h P σ H _ s fun v H1 e1 o => by
    obtain ⟨b, xs, rfl, h1, h2⟩ := o.2.lst_inv
    exact .inl ⟨b, xs, rfl, h1, fun r hr => q _ _ (e1.trans (same_upd hr)) ⟨imm_tuple o.1, .tup (SqT.of upd_same) (DpAll.same (same_upd hr) _ _ h2)⟩⟩)
theorem ek_tupT {ds : List PyData} (h : EK X a G (.im (.tuple ds))) (hm : X.mg "tuple" = none) (hg : Gl X "tuple" := by rfl) (he : starEach [a] X.env = (false, eval a X.env) :: starEach [] X.env := by rfl) :
    EK X (.Call (.Name "tuple" p) [a] [] pos) G (.im (.tuple ds)) := fun P σ H Q s q =>
  to_wE (pe_tupleOf hg hm pe_w he) (h P σ H _ s fun v H1 e1 o => by
    obtain ⟨b, xs, rfl, h1, h2⟩ := o.2.tup_inv
    exact .inr ⟨b, xs, rfl, h1, q _ H1 e1 o⟩)
theorem ek_lstL {ds : List PyData} (h : EK X a G (.sl ds)) (hm : X.mg "list" = none) (hg : Gl X "list" := by rfl) (he : starEach (a :: []) X.env = (false, eval a X.env) :: starEach [] X.env := by rfl) (hpl : (backTo pos (starEach [] X.env)).any (·.1) = false := by rfl) :
    EK X (.Call (.Name "list" p) [a] [] pos) G (.nl ds) := fun P σ H Q s q =>
  to_wE (pe_callTy call_list_of hg hm PyProof.Rows.boot_list (pa_cons pe_w pa_nil he) (by decide) (by decide) he hpl) (h P σ H _ s fun v H1 e1 o => by
    obtain ⟨b, xs, rfl, h1, h2⟩ := o.2.lst_inv
    exact ⟨b, xs, rfl, .inl h1, fun r hr => q _ _ (e1.trans (same_upd hr)) ⟨o.1, r, xs, rfl, e1.free hr, upd_same, DpAll.same (same_upd hr) _ _ h2⟩⟩)
/-- tuple(range(n)), list(range(n)), tuple(range(a, a + n)) -/
def from_ (m n : Nat) : List PyData := (List.range n).map fun i => .int ((m + i : Nat) : Int)
theorem dp_rg {K : PySem.W.Frag} {H : Hp} (m n : Nat) : DpAll K H (rgV (m : Nat) ((m + n : Nat) : Int)) (from_ m n) ∧ immAll (from_ m n) = true := by
  have e : (((m + n : Nat) : Int) - (m : Nat)).toNat = n := by omega
  unfold rgV from_
  rw [e]
  refine ⟨?_, immAll_map fun _ _ => imm_int _⟩
  induction (List.range n) with
  | nil => exact .nil
  | cons i l ih =>
    refine .cons ?_ ih
    show Dp K H (V.int ((m : Int) + (i : Int))) (PyData.int ((m + i : Nat) : Int))
    rw [Int.natCast_add]
    exact .int _
theorem from_zero (n : Nat) : from_ 0 n = upto n := by
  unfold from_ upto
  simp
theorem ek_tupRg {n : Nat} {p2 pos2 : Pos} (h : EK X a G (.im (.int (n : Nat)))) (hm : X.mg "tuple" = none) (hm2 : X.mg "range" = none) (hz : n ≤ 1000000) (hc : X.calm = true := by rfl) (hg : Gl X "tuple" := by rfl) (hg2 : Gl X "range" := by rfl) (na : starEach [a] X.env = (false, eval a X.env) :: starEach [] X.env := by rfl)
    (na2 : starEach [.Call (.Name "range" p2) [a] [] pos2] X.env = (false, eval (.Call (.Name "range" p2) [a] [] pos2) X.env) :: starEach [] X.env := by rfl) :
    EK X (.Call (.Name "tuple" p) [.Call (.Name "range" p2) [a] [] pos2] [] pos) G (.im (.tuple (upto n))) := fun P σ H Q s q =>
  to_wE (pe_tupRg hc hg hm (prg_1 hg2 hm2 pe_w na) na2) (h P σ H _ s fun v H1 e1 o => by
    refine ⟨n, o.2.int_inv, RgOk.of_le (by omega) (by omega) (by omega) (by omega), fun r hr => q _ _ (e1.trans (same_upd hr)) ?_⟩
    have z := dp_rg (K := X.K) (H := upd H1 r (.tup (rgV 0 (n : Nat)))) 0 n
    rw [from_zero, Nat.zero_add] at z
    exact ⟨imm_tuple z.2, .tup (SqT.of upd_same) z.1⟩)
theorem ek_lstRg {n : Nat} {p2 pos2 : Pos} (h : EK X a G (.im (.int (n : Nat)))) (hm : X.mg "list" = none) (hm2 : X.mg "range" = none) (hz : n ≤ 1000000) (hc : X.calm = true := by rfl) (hg : Gl X "list" := by rfl) (hg2 : Gl X "range" := by rfl) (na : starEach [a] X.env = (false, eval a X.env) :: starEach [] X.env := by rfl)
    (na2 : starEach [.Call (.Name "range" p2) [a] [] pos2] X.env = (false, eval (.Call (.Name "range" p2) [a] [] pos2) X.env) :: starEach [] X.env := by rfl) :
    EK X (.Call (.Name "list" p) [.Call (.Name "range" p2) [a] [] pos2] [] pos) G (.nl (upto n)) := fun P σ H Q s q =>
  to_wE (pe_listRg hc hg hm (prg_1 hg2 hm2 pe_w na) na2) (h P σ H _ s fun v H1 e1 o => by
    refine ⟨n, o.2.int_inv, RgOk.of_le (by omega) (by omega) (by omega) (by omega), fun r hr => q _ _ (e1.trans (same_upd hr)) ?_⟩
    have z := dp_rg (K := X.K) (H := upd H1 r (.lst (rgV 0 (n : Nat)))) 0 n
    rw [from_zero, Nat.zero_add] at z
    exact ⟨z.2, r, _, rfl, e1.free hr, upd_same, z.1⟩)
theorem ek_tupRg2 {m n : Nat} {p2 pos2 : Pos} (ha : EK X a G (.im (.int (m : Nat)))) (hb : EK X b G (.im (.int ((m + n : Nat) : Int)))) (hm : X.mg "tuple" = none) (hm2 : X.mg "range" = none) (hz : m + n ≤ 1000000) (hc : X.calm = true := by rfl) (hg : Gl X "tuple" := by rfl) (hg2 : Gl X "range" := by rfl)
    (na : starEach [a, b] X.env = (false, eval a X.env) :: starEach [b] X.env := by rfl) (nb : starEach [b] X.env = (false, eval b X.env) :: starEach [] X.env := by rfl) (hp : (backTo pos2 (starEach [b] X.env)).any (·.1) = false := by rfl)
    (na2 : starEach [.Call (.Name "range" p2) [a, b] [] pos2] X.env = (false, eval (.Call (.Name "range" p2) [a, b] [] pos2) X.env) :: starEach [] X.env := by rfl) :
    EK X (.Call (.Name "tuple" p) [.Call (.Name "range" p2) [a, b] [] pos2] [] pos) G (.im (.tuple (from_ m n))) := fun P σ H Q s q =>
  to_wE (pe_tupRg hc hg hm (prg_2 hg2 hm2 pe_w pe_w na nb hp) na2) (ha P σ H _ s fun v H1 e1 o1 => hb P σ H1 _ (s.later e1) fun u H2 e2 o2 => by
    refine ⟨m, _, o1.2.int_inv, o2.2.int_inv, RgOk.of_le (by omega) (by omega) (by omega) (by omega), fun r hr => q _ _ ((e1.trans e2).trans (same_upd hr)) ?_⟩
    have z := dp_rg (K := X.K) (H := upd H2 r (.tup (rgV (m : Nat) ((m + n : Nat) : Int)))) m n
    exact ⟨imm_tuple z.2, .tup (SqT.of upd_same) z.1⟩)
/-! ### isinstance of a built-in type -/
theorem ek_isi {d : PyData} {T T0 : String} {t : Bool} {p2 : Pos} {y : Str} (h : EK X a G (.im d)) (hT : (match d with | .none => T0 = "NoneType" | .bool _ => T0 = "bool" | .int _ => T0 = "int" | .str _ => T0 = "str" | .tuple _ => T0 = "tuple" | _ => False)) (hk : kitB T0 T = some t)
    (hm : X.mg "isinstance" = none) (hm2 : X.mg y = none) (hv : bootBuiltins y = some (.type T)) (hn : y ≠ "__name__") (hd : (y == ("__debug__" : Str)) = false) (hg : Gl X "isinstance" := by rfl) (hg2 : Gl X y := by rfl)
    (hs1 : starEach [a, .Name y p2] X.env = (false, eval a X.env) :: starEach [.Name y p2] X.env := by rfl) (hs2 : starEach [.Name y p2] X.env = (false, eval (.Name y p2) X.env) :: starEach [] X.env := by rfl)
    (hpl : (backTo pos (starEach [.Name y p2] X.env)).any (·.1) = false := by rfl) : EK X (.Call (.Name "isinstance" p) [a, .Name y p2] [] pos) G (.im (.bool t)) := fun P σ H Q s q =>
  to_wE (pe_callB call_isi hg hm (by decide +kernel) (pa_cons pe_w (pa_cons (pe_bltn (v := .ty T) hg2 hm2 hv rfl hn hd) pa_nil hs2) hs1) (by decide) (by decide) hs1 hpl) (h P σ H _ s fun v H1 e1 o => by
    have tx : TyX X.K H1 v (.type T0) := by
      have dp := o.2
      cases dp with
      | non => cases hT; exact .base .non
      | bl b => cases hT; exact .base (.bl b)
      | int i => cases hT; exact .base (.int i)
      | str x => cases hT; exact .base (.str x)
      | lst _ _ => exact hT.elim
      | tup h1 _ =>
        cases hT
        rcases h1 with (h1 | ⟨ob, h1⟩) | ⟨ob, its, n, k1, k2, k3⟩
        · exact .base (.tup h1)
        · exact .fTuple h1
        · exact .kTuple k1 k2
    exact ⟨v, .ty T, .type T0, .type T, t, rfl, .ty T, tx, kit_ty hk, q _ H1 e1 ⟨imm_bool _, .bl _⟩⟩)
end

/-! ### a def keeps a promise by data -/
def Vk.kd : Vk → Kd
  | .im d => .im d
  | .sl ds => .rl ds
  | .tl _ => .no
  | .nl _ => .no
def gOf (N : List Str) (ks : List Vk) : Cn := ks.map Vk.kd ++ List.replicate (N.length - ks.length) .no
theorem sd_start {K : PySem.W.Frag} {H : Hp} {N : List Str} {vs : List V} {ks : List Vk} (h : VsOk K H H vs ks) : Sd K H (gOf N ks) (L2.start N vs) H := by
  have hl := h.length
  refine ⟨?_, Same.refl H, fun i k hk => ?_, fun i j ds es a _ hi => ?_⟩
  · unfold gOf L2.start
    rw [List.length_append, List.length_append, List.length_map, List.length_map, List.length_replicate, List.length_replicate, hl]
  · unfold gOf at hk
    by_cases hi : i < ks.length
    · rw [List.getElem?_append_left (by rw [List.length_map]; exact hi), List.getElem?_map] at hk
      cases q : ks[i]? with
      | none =>
        rw [q] at hk
        cases hk
      | some k' =>
        rw [q] at hk
        cases hk
        obtain ⟨v, e1, o⟩ := h.get q
        have e2 : (L2.start N vs)[i]? = some (some v) := by
          unfold L2.start
          rw [List.getElem?_append_left (by rw [List.length_map, hl]; exact hi), List.getElem?_map, e1]
          rfl
        rw [e2]
        cases k' with
        | im d => exact ⟨v, rfl, o.1, o.2⟩
        | sl ds =>
          obtain ⟨a, xs, rfl, h1, h2⟩ := o.2.lst_inv
          exact ⟨a, xs, rfl, o.1, h1, h2⟩
        | tl ds => trivial
        | nl ds => trivial
    · rw [List.getElem?_append_right (by rw [List.length_map]; omega), List.getElem?_replicate] at hk
      split at hk
      · cases hk
        trivial
      · cases hk
  · unfold gOf at hi
    by_cases hlt : i < ks.length
    · rw [List.getElem?_append_left (by rw [List.length_map]; exact hlt), List.getElem?_map] at hi
      cases q : ks[i]? with
      | none =>
        rw [q] at hi
        cases hi
      | some k' =>
        rw [q] at hi
        cases k' <;> cases hi
    · rw [List.getElem?_append_right (by rw [List.length_map]; omega), List.getElem?_replicate] at hi
      split at hi <;> cases hi
theorem def_ok {P : Program} {w : World} {K : PySem.W.Frag} {mg : Str → Option Value} {base : Heap} {x : Str} {params : Arguments} {body : List Stmt} {scope : Scope} {f : Addr} {fd : FuncData} {N ps : List Str} {n : Nat} {α : Type} {pre : α → Prop} {ks : α → List Vk} {r : α → Vk}
    (F : FunD K x x params body scope [] [] f fd) (S : FnScope N ps scope) (G0 : α → Cn) (hG : ∀ a, gOf N (ks a) = G0 a) (hl : ∀ a, (ks a).length = ps.length)
    (hbody : ∀ a, pre a → ∀ (cdv : Value) (A : Around) (outer : List Env) (s : Shared) (H : Hp) (E : XK), Room n (A.deeper (envOfC x scope s.heap.objs.size f cdv)) →
      SKs (cxOf CX0 P w K mg base N x scope f cdv A outer s H E).nox body (G0 a) (fun _ => r a = .im .none) (fun k => k = r a)) : FnOk P w K mg base CX0 (n + 1) f fd ps (Prm K pre ks r) := by
  refine F.ok S (fun vs H Q E h => ?_) (fun cdv A outer s H vs Q E hr h => ?_)
  · obtain ⟨a, _, h1, _⟩ := h
    rw [h1.length, hl]
  · obtain ⟨a, hp, h1, q⟩ := h
    refine ⟨wSs (cxOf CX0 P w K mg base N x scope f cdv A outer s H E).nox body, PSs.nox pss_w, ?_⟩
    have s0 := sd_start (N := N) h1
    rw [hG] at s0
    refine hbody a hp cdv A outer s H E hr H (L2.start N vs) H _ s0 ⟨fun P' G' σ' H' e n s' => q .non H' (e.trans s'.same) ?_, fun v H' k hk e o => q v H' e (hk ▸ o)⟩
    rw [n]
    exact ⟨imm_none, .non⟩
end Bk

set_option Elab.async false
set_option linter.all false
set_option maxRecDepth 100000
namespace Bk
open PySem PySem.Spec PyProof.Rows L2
def top (i : Nat) : Stmt := PySem.Challenge.pw_holdfills_k46_whole_all_books_tried.main.body.getD i (.Pass ⟨0, 0, 0, 0⟩)
abbrev s_is_from : Stmt := top 8
abbrev s_is_holder : Stmt := top 9
abbrev s_need_holder : Stmt := top 10
abbrev s_power_so : Stmt := top 11
abbrev s_fillings_so : Stmt := top 12
abbrev s_rows_of : Stmt := top 15
abbrev s_own_so : Stmt := top 16
abbrev s_is_row : Stmt := top 18
abbrev s_done_so : Stmt := top 19
abbrev s_programs_so : Stmt := top 20
abbrev s_rows_to : Stmt := top 21
abbrev s_tables_so : Stmt := top 22
abbrev s_check_size : Stmt := top 24
abbrev s_greatest : Stmt := top 25
abbrev s_into_count : Stmt := top 27
abbrev s_into_so : Stmt := top 28
abbrev s_into_sizes : Stmt := top 29
abbrev s_number_so : Stmt := top 30
abbrev s_check_twice : Stmt := top 33
abbrev s_flat_so : Stmt := top 34
abbrev s_leaves_of : Stmt := top 35
abbrev s_unit_so : Stmt := top 36
abbrev s_broken_alone : Stmt := top 37
abbrev s_is_one_thrice : Stmt := top 38
abbrev s_broken_thrice : Stmt := top 39
abbrev s_broken_law : Stmt := top 40
abbrev s_is_table : Stmt := top 41
abbrev s_check_book : Stmt := top 42
abbrev s_need_book : Stmt := top 43
abbrev s_all_books : Stmt := top 44
abbrev s__law_mixed : Stmt := top 46
abbrev s__law_begin : Stmt := top 47
abbrev s__law_draw : Stmt := top 48
abbrev s__law_of : Stmt := top 49
abbrev s__law_rows : Stmt := top 50
abbrev s__law_fillings : Stmt := top 51
abbrev s__law_done : Stmt := top 52
abbrev s__law_tables : Stmt := top 53
abbrev s__law_like : Stmt := top 54
abbrev s__law_inside : Stmt := top 55
abbrev s__law_parts : Stmt := top 56
abbrev s__law_flat : Stmt := top 57
abbrev s__law_heard : Stmt := top 58
abbrev s__law_alone_held : Stmt := top 59
abbrev s__law_joins_held : Stmt := top 60
abbrev s__law_is_book : Stmt := top 61
abbrev s__law_tried : Stmt := top 62
abbrev s__law_right : Stmt := top 63
abbrev s_law : Stmt := top 64
/-- a def as the top leaves it -/
structure Txt (K : PySem.W.Frag) (mg : Str → Option Value) (x : Str) (st : Stmt) : Prop where
  F : ∃ fd, FunD K x x (defArgs st) (defBody st) (defScope st) [] [] (He.ga K x) fd
  gl : mg x = some (.ref (He.ga K x))
structure TxA (K : PySem.W.Frag) (mg : Str → Option Value) : Prop where
  t_is_from : Txt K mg "is_from" s_is_from
  t_is_holder : Txt K mg "is_holder" s_is_holder
  t_need_holder : Txt K mg "need_holder" s_need_holder
  t_power_so : Txt K mg "power_so" s_power_so
  t_fillings_so : Txt K mg "fillings_so" s_fillings_so
  t_rows_of : Txt K mg "rows_of" s_rows_of
  t_own_so : Txt K mg "own_so" s_own_so
  t_is_row : Txt K mg "is_row" s_is_row
  t_done_so : Txt K mg "done_so" s_done_so
  t_programs_so : Txt K mg "programs_so" s_programs_so
  t_rows_to : Txt K mg "rows_to" s_rows_to
  t_tables_so : Txt K mg "tables_so" s_tables_so
  t_check_size : Txt K mg "check_size" s_check_size
  t_greatest : Txt K mg "greatest" s_greatest
  t_into_count : Txt K mg "into_count" s_into_count
  t_into_so : Txt K mg "into_so" s_into_so
  t_into_sizes : Txt K mg "into_sizes" s_into_sizes
  t_number_so : Txt K mg "number_so" s_number_so
  t_check_twice : Txt K mg "check_twice" s_check_twice
  t_flat_so : Txt K mg "flat_so" s_flat_so
  t_leaves_of : Txt K mg "leaves_of" s_leaves_of
  t_unit_so : Txt K mg "unit_so" s_unit_so
  t_broken_alone : Txt K mg "broken_alone" s_broken_alone
  t_is_one_thrice : Txt K mg "is_one_thrice" s_is_one_thrice
  t_broken_thrice : Txt K mg "broken_thrice" s_broken_thrice
  t_broken_law : Txt K mg "broken_law" s_broken_law
  t_is_table : Txt K mg "is_table" s_is_table
  t_check_book : Txt K mg "check_book" s_check_book
  t_need_book : Txt K mg "need_book" s_need_book
  t_all_books : Txt K mg "all_books" s_all_books
  t__law_mixed : Txt K mg "_law_mixed" s__law_mixed
  t__law_begin : Txt K mg "_law_begin" s__law_begin
  t__law_draw : Txt K mg "_law_draw" s__law_draw
  t__law_of : Txt K mg "_law_of" s__law_of
  t__law_rows : Txt K mg "_law_rows" s__law_rows
  t__law_fillings : Txt K mg "_law_fillings" s__law_fillings
  t__law_done : Txt K mg "_law_done" s__law_done
  t__law_tables : Txt K mg "_law_tables" s__law_tables
  t__law_like : Txt K mg "_law_like" s__law_like
  t__law_inside : Txt K mg "_law_inside" s__law_inside
  t__law_parts : Txt K mg "_law_parts" s__law_parts
  t__law_flat : Txt K mg "_law_flat" s__law_flat
  t__law_heard : Txt K mg "_law_heard" s__law_heard
  t__law_alone_held : Txt K mg "_law_alone_held" s__law_alone_held
  t__law_joins_held : Txt K mg "_law_joins_held" s__law_joins_held
  t__law_is_book : Txt K mg "_law_is_book" s__law_is_book
  t__law_tried : Txt K mg "_law_tried" s__law_tried
  t__law_right : Txt K mg "_law_right" s__law_right
  t_law : Txt K mg "law" s_law
  c_MOST_SHAPES : ∃ t, mg "MOST_SHAPES" = some (.int 60 t)
  c_MOST_PLACES : ∃ t, mg "MOST_PLACES" = some (.int 12 t)
  c_MOST_LISTED : ∃ t, mg "MOST_LISTED" = some (.int 400 t)
  c_MOST_THRICE : ∃ t, mg "MOST_THRICE" = some (.int 5000 t)
  n_isinstance : mg "isinstance" = none
  n_int : mg "int" = none
  n_bool : mg "bool" = none
  n_tuple : mg "tuple" = none
  n_len : mg "len" = none
  n_range : mg "range" = none
  n_sum : mg "sum" = none
  n_list : mg "list" = none
  n_enumerate : mg "enumerate" = none
  n_max : mg "max" = none
  n_zip : mg "zip" = none
  n_repr : mg "repr" = none
  n_super : mg "super" = none
/-- a def keeps a promise, and is known by its name -/
structure Dok (P : Program) (w : World) (K : PySem.W.Frag) (mg : Str → Option Value) (base : Heap) (x : Str) (k : Nat) (ps : List Str) (sp : Sp) : Prop where
  ex : ∃ fd, FnOk P w K mg base CX0 k (He.ga K x) fd ps sp ∧ Binds K fd ps []
  kp : PySem.W.keepIn K (.ref (He.ga K x)) = true
  gl : mg x = some (.ref (He.ga K x))
theorem ek_callD {X : Cx} {e : Expr} {es : List Expr} {G : Cn} {pos p : Pos} {x : Str} {k n : Nat} {ps : List Str} {α : Type} {pre : α → Prop} {ks : α → List Vk} {r : α → Vk} (F : Dok X.prog X.w X.K X.mg X.base x k ps (Prm X.K pre ks r)) (hr : Room n X.A) (a : α) (hp : pre a) (hA : AK X (e :: es) G (ks a))
    (hkn : Nat.ble k n = true := by rfl) (hf : (ks a).all Vk.flat = true := by rfl) (hg : Gl X x := by rfl) (hdb : (x == ("__debug__" : Str)) = false := by decide)
    (he : starEach (e :: es) X.env = (false, eval e X.env) :: starEach es X.env := by rfl) (hpl : (backTo pos (starEach es X.env)).any (·.1) = false := by rfl) : EK X (.Call (.Name x p) (e :: es) [] pos) G (r a) := by
  obtain ⟨fd, F1, hb⟩ := F.ex
  exact ek_call F1 (hr.mono (Nat.le_of_ble_eq_true hkn)) F.gl F.kp hb a hp hA hf hg hdb he hpl
theorem dok {P : Program} {w : World} {K : PySem.W.Frag} {mg : Str → Option Value} {base : Heap} {x : Str} {st : Stmt} {N ps : List Str} {n : Nat} {α : Type} {pre : α → Prop} {ks : α → List Vk} {r : α → Vk} (T : Txt K mg x st) (S : FnScope N ps (defScope st))
    (hb : ∀ (kV doc pm : Value) (an : Option Addr) (cdv ct : Value) (us : List Value), us.length = ps.length → bindArgs (PySem.W.fnOf x x (defArgs st) (defBody st) (defScope st) .none kV doc pm an cdv ct) ⟨us, []⟩ = pure (ps.zip us))
    (G0 : α → Cn) (hG : ∀ a, gOf N (ks a) = G0 a) (hl : ∀ a, (ks a).length = ps.length)
    (hbody : ∀ a, pre a → ∀ (f : Addr) (cdv : Value) (A : Around) (outer : List Env) (s : Shared) (H : Hp) (E : XK), Room n (A.deeper (envOfC x (defScope st) s.heap.objs.size f cdv)) →
      SKs (cxOf CX0 P w K mg base N x (defScope st) f cdv A outer s H E).nox (defBody st) (G0 a) (fun _ => r a = .im .none) (fun k => k = r a)) : Dok P w K mg base x (n + 1) ps (Prm K pre ks r) := by
  obtain ⟨fd, F⟩ := T.F
  exact ⟨⟨fd, def_ok F S G0 hG hl fun a hp cdv A outer s H E hr => hbody a hp _ cdv A outer s H E hr, F.bindsN hb⟩, F.kp, T.gl⟩
end Bk

set_option Elab.async false
set_option linter.all false
set_option maxRecDepth 100000
/-! THE MIRRORS: each piece of text has a mirror, a plain function of the slots' kinds; where the mirror tells something, the text does it. -/
namespace Bk
open PySem PySem.Spec PyProof.Rows L2

abbrev MV := Cn → Option Vk
abbrev MT := Cn → Option Bool
abbrev ML := Cn → Option (List Vk)
abbrev MI := Cn → Option (Cn × List PyData)
inductive Res where
  | go (G : Cn)
  | ret (k : Vk)
abbrev MS := Cn → Option Res
def bnd {α β : Type} (o : Option α) (f : α → Option β) : Option β := match o with
  | some a => f a
  | none => none
theorem bnd_some {α β : Type} {o : Option α} {f : α → Option β} {b : β} (h : bnd o f = some b) : ∃ a, o = some a ∧ f a = some b := by
  cases o with
  | none => cases h
  | some a => exact ⟨a, rfl, h⟩
def grd {β : Type} (c : Bool) (o : Option β) : Option β := match c with
  | true => o
  | false => none
theorem grd_some {β : Type} {c : Bool} {o : Option β} {b : β} (h : grd c o = some b) : c = true ∧ o = some b := by
  cases c with
  | true => exact ⟨rfl, h⟩
  | false => cases h
def EM (X : Cx) (e : Expr) (m : MV) : Prop := ∀ G k, m G = some k → EK X e G k
def TM (X : Cx) (e : Expr) (m : MT) : Prop := ∀ G t, m G = some t → TK X e G t
def AM (X : Cx) (es : List Expr) (m : ML) : Prop := ∀ G ks, m G = some ks → AK X es G ks ∧ ks.all Vk.flat = true
def IM (X : Cx) (tg iter : Expr) (m : MI) : Prop := ∀ G G1 ds, m G = some (G1, ds) → IK X tg iter G G1 ds
def SM (X : Cx) (st : Stmt) (m : MS) : Prop := ∀ G r, m G = some r → ∀ (N : Cn → Prop) (R : Vk → Prop), (∀ G', r = .go G' → N G') → (∀ k, r = .ret k → R k) → SK X st G N R
def SMs (X : Cx) (st : List Stmt) (m : MS) : Prop := ∀ G r, m G = some r → ∀ (N : Cn → Prop) (R : Vk → Prop), (∀ G', r = .go G' → N G') → (∀ k, r = .ret k → R k) → SKs X st G N R

section
variable {X : Cx} {e a b c elt iter : Expr} {es : List Expr} {G : Cn} {pos p p2 p3 : Pos} {m ma mb mc : MV} {t tt ta tb tc : MT} {ml : ML} {st : Stmt} {sts body els : List Stmt} {s1 s2 : MS} {mi : MI}
/-! ### names, constants -/
def rdK : Option Kd → Option Vk
  | some (.im d) => some (.im d)
  | some (.rl ds) => some (.sl ds)
  | some (.ml ds) => some (.tl ds)
  | _ => none
def mVar (i : Nat) : MV := fun G => rdK G[i]?
def mK (k : Vk) : MV := fun _ => some k
theorem rdK_some {o : Option Kd} {k : Vk} (h : rdK o = some k) : (∃ d, o = some (.im d) ∧ k = .im d) ∨ (∃ ds, o = some (.rl ds) ∧ k = .sl ds) ∨ (∃ ds, o = some (.ml ds) ∧ k = .tl ds) := by
  unfold rdK at h
  split at h
  · exact .inl ⟨_, rfl, (Option.some.inj h).symm⟩
  · exact .inr (.inl ⟨_, rfl, (Option.some.inj h).symm⟩)
  · exact .inr (.inr ⟨_, rfl, (Option.some.inj h).symm⟩)
  · cases h
theorem em_var (i : Nat) {x : Str} (hN : X.N[i]? = some x := by rfl) (hv : Vis X.env.scope x := by first | exact Or.inl rfl | exact Or.inr (Or.inl rfl) | exact Or.inr (Or.inr rfl))
    (hd : (x == ("__debug__" : Str)) = false := by decide) (hcd : (x == ("__classdict__" : Str)) = false := by decide) : EM X (.Name x pos) (mVar i) := fun G k h => by
  rcases rdK_some h with ⟨d, h1, rfl⟩ | ⟨d, h1, rfl⟩ | ⟨d, h1, rfl⟩
  · exact ek_im i hN hv h1 hd hcd
  · exact ek_rl i hN hv h1 hd hcd
  · exact ek_ml i hN hv h1 hd hcd
theorem em_int {i : Int} {j : Nat} : EM X (.Constant (.int i) j pos) (mK (.im (.int i))) := fun G k h => by cases h; exact ek_int
theorem em_bool {i : Bool} {j : Nat} : EM X (.Constant (.bool i) j pos) (mK (.im (.bool i))) := fun G k h => by cases h; exact ek_bool
theorem em_none {j : Nat} : EM X (.Constant .none j pos) (mK (.im .none)) := fun G k h => by cases h; exact ek_none
theorem em_str {i : Str} {j : Nat} : EM X (.Constant (.str i) j pos) (mK (.im (.str i))) := fun G k h => by cases h; exact ek_str
theorem em_glob {x : Str} {i : Int} (hm : ∃ t, X.mg x = some (.int i t)) (hg : Gl X x := by rfl) (hd : (x == ("__debug__" : Str)) = false := by decide) : EM X (.Name x pos) (mK (.im (.int i))) := fun G k h => by
  obtain ⟨t, hm⟩ := hm
  cases h
  exact ek_glob hm hg hd

/-! ### operators -/
def m2 (f : Vk → Vk → Option Vk) (a b : MV) : MV := fun G => bnd (a G) fun x => bnd (b G) fun y => f x y
def m1 (f : Vk → Option Vk) (a : MV) : MV := fun G => bnd (a G) f
def asT : Vk → Option (List PyData)
  | .tl ds => some ds
  | .nl ds => some ds
  | _ => none
theorem asT_some {k : Vk} {ds : List PyData} (h : asT k = some ds) : Vk.le k (.tl ds) := by
  unfold asT at h
  split at h
  · cases h; exact .refl
  · cases h; exact .nt
  · cases h
def asS : Vk → Option (List PyData)
  | .sl ds => some ds
  | .tl ds => some ds
  | .nl ds => some ds
  | _ => none
theorem asS_some {k : Vk} {ds : List PyData} (h : asS k = some ds) : Vk.le k (.sl ds) := by
  unfold asS at h
  split at h
  · cases h; exact .refl
  · cases h; exact .ts
  · cases h; exact .ns
  · cases h
theorem size_small {n : Nat} (h : Nat.ble n 1000000 = true) : n ≤ sizeLine := by
  have := Nat.le_of_ble_eq_true h
  rw [sizeLine_eq]
  omega
def addV (x y : Vk) : Option Vk := match x, y with
  | .im (.int i), .im (.int j) => some (.im (.int (i + j)))
  | .im (.tuple ds), .im (.tuple es) => grd (Nat.ble (ds.length + es.length) 1000000) (some (.im (.tuple (ds ++ es))))
  | _, _ => bnd (asT x) fun ds => bnd (asT y) fun es => grd (Nat.ble (ds.length + es.length) 1000000) (some (.nl (ds ++ es)))
theorem em_add (ha : EM X a ma) (hb : EM X b mb) : EM X (.BinOp a .Add b pos) (m2 addV ma mb) := fun G k h => by
  obtain ⟨x, hx, h⟩ := bnd_some h
  obtain ⟨y, hy, h⟩ := bnd_some h
  have ea := ha G x hx
  have eb := hb G y hy
  unfold addV at h
  split at h
  · cases h
    exact ek_add ea eb
  · obtain ⟨h1, h⟩ := grd_some h
    cases h
    exact ek_catT ea eb (size_small h1)
  · obtain ⟨ds, h1, h⟩ := bnd_some h
    obtain ⟨es, h2, h⟩ := bnd_some h
    obtain ⟨h3, h⟩ := grd_some h
    cases h
    exact ek_catL (ea.weak (asT_some h1)) (eb.weak (asT_some h2)) (size_small h3)
def subV (x y : Vk) : Option Vk := match x, y with
  | .im (.int i), .im (.int j) => some (.im (.int (i - j)))
  | _, _ => none
theorem em_sub (ha : EM X a ma) (hb : EM X b mb) : EM X (.BinOp a .Sub b pos) (m2 subV ma mb) := fun G k h => by
  obtain ⟨x, hx, h⟩ := bnd_some h
  obtain ⟨y, hy, h⟩ := bnd_some h
  unfold subV at h
  split at h
  · cases h
    exact ek_sub (ha G _ hx) (hb G _ hy)
  · cases h
/-- small enough to multiply -/
def smul (i j : Int) : Bool := Nat.ble i.natAbs 1000000000000 || Nat.ble j.natAbs 1000000000000
theorem smul_ok {i j : Int} (h : smul i j = true) : CMul i j := by
  unfold smul at h
  rw [Bool.or_eq_true] at h
  rcases h with h | h
  · have := Nat.le_of_ble_eq_true h
    exact .inl ⟨by omega, by omega⟩
  · have := Nat.le_of_ble_eq_true h
    exact .inr ⟨by omega, by omega⟩
def mulV (x y : Vk) : Option Vk := match x, y with
  | .im (.int i), .im (.int j) => grd (smul i j) (some (.im (.int (i * j))))
  | .nl [d], .im (.int (.ofNat n)) => grd (Nat.ble n 1000000) (some (.nl (List.replicate n d)))
  | _, _ => none
theorem em_mul (ha : EM X a ma) (hb : EM X b mb) : EM X (.BinOp a .Mult b pos) (m2 mulV ma mb) := fun G k h => by
  obtain ⟨x, hx, h⟩ := bnd_some h
  obtain ⟨y, hy, h⟩ := bnd_some h
  unfold mulV at h
  split at h
  · obtain ⟨h1, h⟩ := grd_some h
    cases h
    exact ek_mul (ha G _ hx) (hb G _ hy) (smul_ok h1)
  · obtain ⟨h1, h⟩ := grd_some h
    cases h
    exact ek_repL ((ha G _ hx).weak .nt) (hb G _ hy) (Nat.le_of_ble_eq_true h1)
  · cases h

/-! ### comparisons -/
def datV : Vk → PyData
  | .im d => d
  | .sl ds => .list ds
  | .tl ds => .list ds
  | .nl ds => .list ds
theorem datV_ok (k : Vk) : DtK (datV k) k := by cases k <;> exact rfl
def eqT (x y : Vk) : Option Bool := grd (SeqAt.shaped (datV x) && SeqAt.shaped (datV y)) (some (PyData.eqv (datV x) (datV y)))
def t2 (f : Vk → Vk → Option Bool) (a b : MV) : MT := fun G => bnd (a G) fun x => bnd (b G) fun y => f x y
def ofT (t : MT) : MV := fun G => bnd (t G) fun z => some (.im (.bool z))
def notT (t : MT) : MT := fun G => bnd (t G) fun z => some (!z)
theorem em_eq (hu : X.A.units + 64 < cLine) (ha : EM X a ma) (hb : EM X b mb) : EM X (.Compare a [.Eq] [b] pos) (ofT (t2 eqT ma mb)) := fun G k h => by
  obtain ⟨z, hz, h⟩ := bnd_some h
  obtain ⟨x, hx, hz⟩ := bnd_some hz
  obtain ⟨y, hy, hz⟩ := bnd_some hz
  obtain ⟨h1, hz⟩ := grd_some hz
  rw [Bool.and_eq_true] at h1
  cases hz
  cases h
  exact ek_eqD hu (ha G _ hx) (hb G _ hy) (datV_ok _) (datV_ok _) h1.1 h1.2
theorem tm_eq (hu : X.A.units + 64 < cLine) (ha : EM X a ma) (hb : EM X b mb) : TM X (.Compare a [.Eq] [b] pos) (t2 eqT ma mb) := fun G k hz => by
  obtain ⟨x, hx, hz⟩ := bnd_some hz
  obtain ⟨y, hy, hz⟩ := bnd_some hz
  obtain ⟨h1, hz⟩ := grd_some hz
  rw [Bool.and_eq_true] at h1
  cases hz
  exact tk_eqD hu (ha G _ hx) (hb G _ hy) (datV_ok _) (datV_ok _) h1.1 h1.2
theorem tm_ne (hu : X.A.units + 64 < cLine) (ha : EM X a ma) (hb : EM X b mb) : TM X (.Compare a [.NotEq] [b] pos) (notT (t2 eqT ma mb)) := fun G k h => by
  obtain ⟨z, hz, h⟩ := bnd_some h
  obtain ⟨x, hx, hz⟩ := bnd_some hz
  obtain ⟨y, hy, hz⟩ := bnd_some hz
  obtain ⟨h1, hz⟩ := grd_some hz
  rw [Bool.and_eq_true] at h1
  cases hz
  cases h
  exact tk_neD hu (ha G _ hx) (hb G _ hy) (datV_ok _) (datV_ok _) h1.1 h1.2
def inT (x y : Vk) : Option Bool := bnd (asS y) fun ds => grd (SeqAt.shaped (datV x) && SeqAt.shaped (.list ds)) (some (ds.any fun z => PyData.eqv z (datV x)))
theorem tm_in (hu : X.A.units + 65 < cLine) (ha : EM X a ma) (hb : EM X b mb) (hm : behindInMarks .In b = false := by rfl) : TM X (.Compare a [.In] [b] pos) (t2 inT ma mb) := fun G k hz => by
  obtain ⟨x, hx, hz⟩ := bnd_some hz
  obtain ⟨y, hy, hz⟩ := bnd_some hz
  obtain ⟨ds, hd, hz⟩ := bnd_some hz
  obtain ⟨h1, hz⟩ := grd_some hz
  rw [Bool.and_eq_true] at h1
  cases hz
  exact tk_inD hu (ha G _ hx) ((hb G _ hy).weak (asS_some hd)) (datV_ok _) rfl h1.1 h1.2 hm
def ltT (x y : Vk) : Option Bool := match x, y with
  | .im (.int i), .im (.int j) => some (decide (i < j))
  | _, _ => none
def gtT (x y : Vk) : Option Bool := match x, y with
  | .im (.int i), .im (.int j) => some (decide (j < i))
  | _, _ => none
theorem tm_gt (ha : EM X a ma) (hb : EM X b mb) : TM X (.Compare a [.Gt] [b] pos) (t2 gtT ma mb) := fun G k hz => by
  obtain ⟨x, hx, hz⟩ := bnd_some hz
  obtain ⟨y, hy, hz⟩ := bnd_some hz
  unfold gtT at hz
  split at hz
  · cases hz
    exact tk_gt (ha G _ hx) (hb G _ hy)
  · cases hz
def isN : Vk → Option Bool
  | .im .none => some true
  | .im _ => some false
  | _ => none
def t1 (f : Vk → Option Bool) (a : MV) : MT := fun G => bnd (a G) f
theorem tm_isN {j : Nat} {p2 : Pos} (ha : EM X a ma) : TM X (.Compare a [.Is] [.Constant .none j p2] pos) (t1 isN ma) := fun G k h => by
  obtain ⟨x, hx, h⟩ := bnd_some h
  unfold isN at h
  split at h
  · cases h
    exact tk_isN (ha G _ hx) _ rfl
  · rename_i d hd
    cases h
    refine tk_isN (ha G _ hx) _ ?_
    cases d with
    | none => exact (hd rfl).elim
    | _ => rfl
  · cases h
theorem tm_notN {j : Nat} {p2 : Pos} (ha : EM X a ma) : TM X (.Compare a [.IsNot] [.Constant .none j p2] pos) (notT (t1 isN ma)) := fun G k h => by
  obtain ⟨z, hz, h⟩ := bnd_some h
  obtain ⟨x, hx, hz⟩ := bnd_some hz
  unfold isN at hz
  split at hz
  · cases hz
    cases h
    exact tk_notN (ha G _ hx) _ rfl
  · rename_i d hd
    cases hz
    cases h
    refine tk_notN (ha G _ hx) _ ?_
    cases d with
    | none => exact (hd rfl).elim
    | _ => rfl
  · cases hz
def betV (x y z : Vk) : Option Vk := match x, y, z with
  | .im (.int i), .im (.int j), .im (.int l) => some (.im (.bool (decide (i ≤ j) && decide (j ≤ l))))
  | _, _, _ => none
def m3 (f : Vk → Vk → Vk → Option Vk) (a b c : MV) : MV := fun G => bnd (a G) fun x => bnd (b G) fun y => bnd (c G) fun z => f x y z
theorem em_between (ha : EM X a ma) (hb : EM X b mb) (hc : EM X c mc) (hm : lastMarks [CmpOp.LtE, CmpOp.LtE] [b, c] = false := by rfl) : EM X (.Compare a [.LtE, .LtE] [b, c] pos) (m3 betV ma mb mc) := fun G k h => by
  obtain ⟨x, hx, h⟩ := bnd_some h
  obtain ⟨y, hy, h⟩ := bnd_some h
  obtain ⟨z, hz, h⟩ := bnd_some h
  unfold betV at h
  split at h
  · cases h
    exact ek_between (ha G _ hx) (hb G _ hy) (hc G _ hz) hm
  · cases h

/-! ### truth -/
def vT : Vk → Option Bool
  | .im (.bool z) => some z
  | _ => none
theorem vT_some {k : Vk} {z : Bool} (h : vT k = some z) : k = .im (.bool z) := by
  unfold vT at h
  split at h
  · cases h; rfl
  · cases h
theorem tm_val (h : EM X e m) (he : ∀ whole, isTrue e X.env whole = (do let v ← whole; standAt e.pos; holding [v] (truthy v)) := by intro _; rfl) : TM X e (t1 vT m) := fun G k hz => by
  obtain ⟨x, hx, hz⟩ := bnd_some hz
  cases vT_some hz
  exact tk_val (h G _ hx) he
theorem tm_not (h : TM X a t) : TM X (.UnaryOp .Not a pos) (notT t) := fun G k hz => by
  obtain ⟨x, hx, hz⟩ := bnd_some hz
  cases hz
  exact tk_not (h G _ hx)
theorem em_not (h : EM X a m) : EM X (.UnaryOp .Not a pos) (ofT (notT (t1 vT m))) := fun G k hz => by
  obtain ⟨x, hx, hz⟩ := bnd_some hz
  obtain ⟨y, hy, hx⟩ := bnd_some hx
  obtain ⟨w, hw, hy⟩ := bnd_some hy
  cases hx
  cases hz
  cases vT_some hy
  exact ek_not (h G _ hw)
def mAnd (a b : MV) : MV := fun G => bnd (a G) fun x => bnd (vT x) fun z => match z with
  | true => bnd (b G) fun y => bnd (vT y) fun u => some (.im (.bool u))
  | false => some (.im (.bool false))
theorem em_one {op : BoolOp} (h : EM X a m) : EM X (.BoolOp op [a] pos) m := fun G k hz => ek_one (h G k hz)
theorem em_and {rest : List Expr} (ha : EM X a ma) (hb : EM X (.BoolOp .And (b :: rest) pos) mb) : EM X (.BoolOp .And (a :: b :: rest) pos) (mAnd ma mb) := fun G k h => by
  obtain ⟨x, hx, h1⟩ := bnd_some h
  obtain ⟨z, hz, h2⟩ := bnd_some h1
  clear h h1
  have ez := vT_some hz
  subst ez
  cases z with
  | true =>
    obtain ⟨y, hy, h3⟩ := bnd_some h2
    obtain ⟨u, hu, h4⟩ := bnd_some h3
    have ey := vT_some hu
    subst ey
    cases h4
    exact (ek_and (u := u) (ha G _ hx) fun _ => hb G _ hy).of (by rw [Bool.true_and])
  | false =>
    cases h2
    exact (ek_and (u := false) (ha G _ hx) fun q => by cases q).of rfl
def tOr (a b : MT) : MT := fun G => bnd (a G) fun z => match z with
  | true => some true
  | false => b G
theorem tm_or2 (ha : TM X a ta) (hb : TM X b tb) : TM X (.BoolOp .Or [a, b] pos) (tOr ta tb) := fun G k h => by
  obtain ⟨z, hz, h1⟩ := bnd_some h
  clear h
  cases z with
  | true =>
    cases h1
    exact (tk_or2 (p2 := pos) (u := false) (ha G _ hz) fun q => by cases q).of rfl
  | false => exact (tk_or2 (p2 := pos) (ha G _ hz) fun _ => hb G _ h1).of (by rw [Bool.false_or])
theorem tm_or3 (ha : TM X a ta) (hb : TM X b tb) (hc : TM X c tc) : TM X (.BoolOp .Or [a, b, c] pos) (tOr ta (tOr tb tc)) := fun G k h => by
  obtain ⟨z, hz, h1⟩ := bnd_some h
  clear h
  cases z with
  | true =>
    cases h1
    exact (tk_or3 (u := false) (w := false) (ha G _ hz) (fun q => by cases q) fun q => by cases q).of rfl
  | false =>
    obtain ⟨z', hz', h2⟩ := bnd_some h1
    clear h1
    cases z' with
    | true =>
      cases h2
      exact (tk_or3 (w := false) (ha G _ hz) (fun _ => hb G _ hz') fun _ q => by cases q).of rfl
    | false => exact (tk_or3 (ha G _ hz) (fun _ => hb G _ hz') fun _ _ => hc G _ h2).of (by rw [Bool.false_or, Bool.false_or])
def mIfE (c : MT) (a b : MV) : MV := fun G => bnd (c G) fun z => match z with
  | true => a G
  | false => b G
theorem em_if (hc : TM X c t) (ha : EM X a ma) (hb : EM X b mb) : EM X (.IfExp c a b pos) (mIfE t ma mb) := fun G k h => by
  obtain ⟨z, hz, h1⟩ := bnd_some h
  clear h
  cases z with
  | true => exact ek_if (hc G _ hz) (fun _ => ha G _ h1) fun q => by cases q
  | false => exact ek_if (hc G _ hz) (fun q => by cases q) fun _ => hb G _ h1

/-! ### arguments, displays -/
def noStar : Expr → Bool
  | .Starred _ _ => false
  | _ => true
theorem star_ne {rest : List Expr} {env : Env} (h : noStar e = true) : starEach (e :: rest) env = (false, eval e env) :: starEach rest env := by
  cases e <;> first | rfl | cases h
def Vk.fl : Vk → Vk
  | .im d => .im d
  | .sl ds => .sl ds
  | .tl ds => .sl ds
  | .nl ds => .sl ds
theorem fl_le (k : Vk) : Vk.le k k.fl := by
  cases k with
  | im d => exact .refl
  | sl ds => exact .refl
  | tl ds => exact .ts
  | nl ds => exact .ns
theorem fl_flat (k : Vk) : k.fl.flat = true := by cases k <;> rfl
def aNil : ML := fun _ => some []
def aCons (m : MV) (r : ML) : ML := fun G => bnd (m G) fun k => bnd (r G) fun ks => some (k.fl :: ks)
theorem am_nil : AM X [] aNil := fun G k h => by
  cases h
  exact ⟨ak_nil, rfl⟩
theorem am_cons (he : EM X e m) (hr : AM X es ml) (hs : starEach (e :: es) X.env = (false, eval e X.env) :: starEach es X.env := by exact star_ne rfl) : AM X (e :: es) (aCons m ml) := fun G k h => by
  obtain ⟨x, hx, h⟩ := bnd_some h
  obtain ⟨y, hy, h⟩ := bnd_some h
  cases h
  obtain ⟨h1, h2⟩ := hr G y hy
  refine ⟨ak_cons ((he G x hx).weak (fl_le x)) h1 hs, ?_⟩
  rw [List.all_cons, fl_flat, h2]
  rfl
/-- all of them data that never changes -/
def ims : List Vk → Option (List PyData)
  | [] => some []
  | .im d :: ks => bnd (ims ks) fun ds => some (d :: ds)
  | _ :: _ => none
theorem ims_some : ∀ {ks : List Vk} {ds : List PyData}, ims ks = some ds → ks = ds.map Vk.im ∧ ds.length = ks.length
  | [], ds, h => by cases h; exact ⟨rfl, rfl⟩
  | .im d :: ks, ds, h => by
    obtain ⟨es, h1, h⟩ := bnd_some h
    cases h
    obtain ⟨h2, h3⟩ := ims_some h1
    exact ⟨by rw [h2]; rfl, by rw [List.length_cons, List.length_cons, h3]⟩
  | .sl _ :: _, _, h => by cases h
  | .tl _ :: _, _, h => by cases h
  | .nl _ :: _, _, h => by cases h
def mTup (r : ML) : MV := fun G => bnd (r G) fun ks => bnd (ims ks) fun ds => grd (Nat.ble ds.length 1000000) (some (.im (.tuple ds)))
def mLst (r : ML) : MV := fun G => bnd (r G) fun ks => bnd (ims ks) fun ds => grd (Nat.ble ds.length 1000000) (some (.nl ds))
theorem AM.len (h : AM X es ml) {ks : List Vk} (hk : ml G = some ks) : True := True.intro
theorem em_tup {x1 : Nat} (h : AM X es (ml)) : EM X (.Tuple es x1 pos) (mTup ml) := fun G k hk => by
  obtain ⟨ks, hx, hk⟩ := bnd_some hk
  obtain ⟨ds, hd, hk⟩ := bnd_some hk
  obtain ⟨h3, hk⟩ := grd_some hk
  cases hk
  obtain ⟨h1, h2⟩ := ims_some hd
  exact ek_tup (h G ks hx).1 h1 (size_small h3)
theorem em_lst (h : AM X es ml) : EM X (.List es pos) (mLst ml) := fun G k hk => by
  obtain ⟨ks, hx, hk⟩ := bnd_some hk
  obtain ⟨ds, hd, hk⟩ := bnd_some hk
  obtain ⟨h3, hk⟩ := grd_some hk
  cases hk
  obtain ⟨h1, h2⟩ := ims_some hd
  exact ek_lst (h G ks hx).1 h1 (size_small h3)
end
end Bk

set_option Elab.async false
set_option linter.all false
set_option maxRecDepth 100000
namespace Bk
open PySem PySem.Spec PyProof.Rows L2
section
variable {X : Cx} {e a b c elt iter tg : Expr} {es ifs : List Expr} {G : Cn} {pos p p2 p3 : Pos} {m ma mb mc me : MV} {t tt ta tb tc : MT} {ml : ML} {st : Stmt} {sts body els : List Stmt} {s1 s2 : MS} {mi : MI} {scope : Scope}
/-! ### items, slices -/
def ixV (x y : Vk) : Option Vk := match y with
  | .im (.int i) => match x with
    | .im (.tuple ds) => bnd (atI ds i) fun d => some (.im d)
    | k => bnd (asS k) fun ds => bnd (atI ds i) fun d => some (.im d)
  | _ => none
theorem em_ix (ha : EM X a ma) (hb : EM X b mb) (hs : PlainIx b := by exact fun _ _ => rfl) : EM X (.Subscript a b pos) (m2 ixV ma mb) := fun G k h => by
  obtain ⟨x, hx, h1⟩ := bnd_some h
  obtain ⟨y, hy, h2⟩ := bnd_some h1
  unfold ixV at h2
  split at h2
  · split at h2
    · obtain ⟨d, h3, h4⟩ := bnd_some h2
      cases h4
      exact ek_ixT (ha G _ hx) (hb G _ hy) h3 hs
    · obtain ⟨ds, h3, h4⟩ := bnd_some h2
      obtain ⟨d, h5, h6⟩ := bnd_some h4
      cases h6
      exact ek_ixL ((ha G _ hx).weak (asS_some h3)) (hb G _ hy) h5 hs
  · cases h2
abbrev MO := Cn → Option (Option Int)
def OM (X : Cx) (e : Option Expr) (m : MO) : Prop := ∀ G o, m G = some o → OK X e G o
def oNo : MO := fun _ => some none
def oSome (m : MV) : MO := fun G => bnd (m G) fun k => match k with
  | .im (.int i) => some (some i)
  | _ => none
theorem om_none : OM X none oNo := fun G o h => by
  cases h
  exact ok_none
theorem om_some (h : EM X e m) : OM X (some e) (oSome m) := fun G o hq => by
  obtain ⟨x, hx, h1⟩ := bnd_some hq
  split at h1
  · cases h1
    exact ok_some (h G _ hx)
  · cases h1
def mSl (m : MV) (l u : MO) : MV := fun G => bnd (m G) fun k => bnd (l G) fun i => bnd (u G) fun j => match k with
  | .im (.tuple ds) => some (.im (.tuple (cutD ds i j)))
  | _ => none
theorem em_sl {lo hi : Option Expr} {l u : MO} (ha : EM X a m) (hl : OM X lo l) (hu : OM X hi u) : EM X (.Subscript a (.Slice lo hi none p2) pos) (mSl m l u) := fun G k h => by
  obtain ⟨x, hx, h1⟩ := bnd_some h
  obtain ⟨i, hi, h2⟩ := bnd_some h1
  obtain ⟨j, hj, h3⟩ := bnd_some h2
  split at h3
  · cases h3
    exact ek_slT (ha G _ hx) (hl G _ hi) (hu G _ hj)
  · cases h3

/-! ### built-ins -/
def lenV : Vk → Option Vk
  | .im (.tuple ds) => some (.im (.int (ds.length : Nat)))
  | k => bnd (asS k) fun ds => some (.im (.int (ds.length : Nat)))
theorem em_len (h : EM X a m) (hm : X.mg "len" = none) (hg : Gl X "len" := by rfl) (he : starEach (a :: []) X.env = (false, eval a X.env) :: starEach [] X.env := by rfl) (hpl : (backTo pos (starEach [] X.env)).any (·.1) = false := by rfl) :
    EM X (.Call (.Name "len" p) [a] [] pos) (m1 lenV m) := fun G k hq => by
  obtain ⟨x, hx, h1⟩ := bnd_some hq
  unfold lenV at h1
  split at h1
  · cases h1
    exact ek_lenT (h G _ hx) hm hg he hpl
  · obtain ⟨ds, h3, h4⟩ := bnd_some h1
    cases h4
    exact ek_lenL ((h G _ hx).weak (asS_some h3)) hm hg he hpl
def nums : List PyData → Option (List Int)
  | [] => some []
  | .int i :: ds => bnd (nums ds) fun is => some (i :: is)
  | _ :: _ => none
theorem nums_some : ∀ {ds : List PyData} {is : List Int}, nums ds = some is → ds = is.map PyData.int
  | [], is, h => by cases h; rfl
  | d :: ds, is, h => by
    cases d with
    | int i =>
      obtain ⟨js, h1, h2⟩ := bnd_some h
      cases h2
      rw [nums_some h1]
      rfl
    | none => cases h
    | bool _ => cases h
    | str _ => cases h
    | list _ => cases h
    | tuple _ => cases h
    | dict _ => cases h
def sumV (k : Vk) : Option Vk := bnd (asS k) fun ds => bnd (nums ds) fun is => some (.im (.int is.sum))
theorem em_sum (h : EM X a m) (hm : X.mg "sum" = none) (hc : X.calm = true := by rfl) (hg : Gl X "sum" := by rfl) (he : starEach (a :: []) X.env = (false, eval a X.env) :: starEach [] X.env := by rfl) (hpl : (backTo pos (starEach [] X.env)).any (·.1) = false := by rfl) :
    EM X (.Call (.Name "sum" p) [a] [] pos) (m1 sumV m) := fun G k hq => by
  obtain ⟨x, hx, h1⟩ := bnd_some hq
  obtain ⟨ds, h3, h4⟩ := bnd_some h1
  obtain ⟨is, h5, h6⟩ := bnd_some h4
  cases h6
  have z := (h G _ hx).weak (asS_some h3)
  rw [nums_some h5] at z
  exact ek_sum z hm hc hg he hpl
def tupV : Vk → Option Vk
  | .im (.tuple ds) => some (.im (.tuple ds))
  | k => bnd (asS k) fun ds => some (.im (.tuple ds))
theorem em_tuple (h : EM X a m) (hm : X.mg "tuple" = none) (hg : Gl X "tuple" := by rfl) (he : starEach [a] X.env = (false, eval a X.env) :: starEach [] X.env := by rfl) :
    EM X (.Call (.Name "tuple" p) [a] [] pos) (m1 tupV m) := fun G k hq => by
  obtain ⟨x, hx, h1⟩ := bnd_some hq
  unfold tupV at h1
  split at h1
  · cases h1
    exact ek_tupT (h G _ hx) hm hg he
  · obtain ⟨ds, h3, h4⟩ := bnd_some h1
    cases h4
    exact ek_tupL ((h G _ hx).weak (asS_some h3)) hm hg he
def lstV (k : Vk) : Option Vk := bnd (asS k) fun ds => some (.nl ds)
theorem em_list (h : EM X a m) (hm : X.mg "list" = none) (hg : Gl X "list" := by rfl) (he : starEach (a :: []) X.env = (false, eval a X.env) :: starEach [] X.env := by rfl) (hpl : (backTo pos (starEach [] X.env)).any (·.1) = false := by rfl) :
    EM X (.Call (.Name "list" p) [a] [] pos) (m1 lstV m) := fun G k hq => by
  obtain ⟨x, hx, h1⟩ := bnd_some hq
  obtain ⟨ds, h3, h4⟩ := bnd_some h1
  cases h4
  exact ek_lstL ((h G _ hx).weak (asS_some h3)) hm hg he hpl
def natV : Vk → Option Nat
  | .im (.int (.ofNat n)) => some n
  | _ => none
theorem natV_some {k : Vk} {n : Nat} (h : natV k = some n) : k = .im (.int (n : Nat)) := by
  unfold natV at h
  split at h
  · cases h; rfl
  · cases h
def rgV1 (k : Vk) : Option (List PyData) := bnd (natV k) fun n => grd (Nat.ble n 1000000) (some (upto n))
def tupRg (k : Vk) : Option Vk := bnd (rgV1 k) fun ds => some (.im (.tuple ds))
def lstRg (k : Vk) : Option Vk := bnd (rgV1 k) fun ds => some (.nl ds)
theorem em_tupRg {p2 pos2 : Pos} (h : EM X a m) (hm : X.mg "tuple" = none) (hm2 : X.mg "range" = none) (hc : X.calm = true := by rfl) (hg : Gl X "tuple" := by rfl) (hg2 : Gl X "range" := by rfl) (na : starEach [a] X.env = (false, eval a X.env) :: starEach [] X.env := by rfl)
    (na2 : starEach [.Call (.Name "range" p2) [a] [] pos2] X.env = (false, eval (.Call (.Name "range" p2) [a] [] pos2) X.env) :: starEach [] X.env := by rfl) :
    EM X (.Call (.Name "tuple" p) [.Call (.Name "range" p2) [a] [] pos2] [] pos) (m1 tupRg m) := fun G k hq => by
  obtain ⟨x, hx, h1⟩ := bnd_some hq
  obtain ⟨ds, h3, h4⟩ := bnd_some h1
  obtain ⟨n, h5, h6⟩ := bnd_some h3
  obtain ⟨h7, h8⟩ := grd_some h6
  have ex := natV_some h5
  subst ex
  cases h8
  cases h4
  exact ek_tupRg (h G _ hx) hm hm2 (Nat.le_of_ble_eq_true h7) hc hg hg2 na na2
theorem em_lstRg {p2 pos2 : Pos} (h : EM X a m) (hm : X.mg "list" = none) (hm2 : X.mg "range" = none) (hc : X.calm = true := by rfl) (hg : Gl X "list" := by rfl) (hg2 : Gl X "range" := by rfl) (na : starEach [a] X.env = (false, eval a X.env) :: starEach [] X.env := by rfl)
    (na2 : starEach [.Call (.Name "range" p2) [a] [] pos2] X.env = (false, eval (.Call (.Name "range" p2) [a] [] pos2) X.env) :: starEach [] X.env := by rfl) :
    EM X (.Call (.Name "list" p) [.Call (.Name "range" p2) [a] [] pos2] [] pos) (m1 lstRg m) := fun G k hq => by
  obtain ⟨x, hx, h1⟩ := bnd_some hq
  obtain ⟨ds, h3, h4⟩ := bnd_some h1
  obtain ⟨n, h5, h6⟩ := bnd_some h3
  obtain ⟨h7, h8⟩ := grd_some h6
  have ex := natV_some h5
  subst ex
  cases h8
  cases h4
  exact ek_lstRg (h G _ hx) hm hm2 (Nat.le_of_ble_eq_true h7) hc hg hg2 na na2
def rgV2 (x y : Vk) : Option Vk := bnd (natV x) fun i => bnd (natV y) fun j => grd (Nat.ble i j && Nat.ble j 1000000) (some (.im (.tuple (from_ i (j - i)))))
theorem em_tupRg2 {p2 pos2 : Pos} (ha : EM X a ma) (hb : EM X b mb) (hm : X.mg "tuple" = none) (hm2 : X.mg "range" = none) (hc : X.calm = true := by rfl) (hg : Gl X "tuple" := by rfl) (hg2 : Gl X "range" := by rfl)
    (na : starEach [a, b] X.env = (false, eval a X.env) :: starEach [b] X.env := by rfl) (nb : starEach [b] X.env = (false, eval b X.env) :: starEach [] X.env := by rfl) (hp : (backTo pos2 (starEach [b] X.env)).any (·.1) = false := by rfl)
    (na2 : starEach [.Call (.Name "range" p2) [a, b] [] pos2] X.env = (false, eval (.Call (.Name "range" p2) [a, b] [] pos2) X.env) :: starEach [] X.env := by rfl) :
    EM X (.Call (.Name "tuple" p) [.Call (.Name "range" p2) [a, b] [] pos2] [] pos) (m2 rgV2 ma mb) := fun G k hq => by
  obtain ⟨x, hx, h1⟩ := bnd_some hq
  obtain ⟨y, hy, h2⟩ := bnd_some h1
  obtain ⟨i, hi, h3⟩ := bnd_some h2
  obtain ⟨j, hj, h4⟩ := bnd_some h3
  obtain ⟨h5, h6⟩ := grd_some h4
  rw [Bool.and_eq_true] at h5
  have l1 := Nat.le_of_ble_eq_true h5.1
  have l2 := Nat.le_of_ble_eq_true h5.2
  have ex := natV_some hi
  have ey := natV_some hj
  subst ex
  subst ey
  cases h6
  have hbb : EK X b G (.im (.int ((i + (j - i) : Nat) : Int))) := by
    rw [Nat.add_sub_cancel' l1]
    exact hb G _ hy
  exact ek_tupRg2 (ha G _ hx) hbb hm hm2 (by omega) hc hg hg2 na nb hp na2
def tyN : PyData → Option String
  | .none => some "NoneType"
  | .bool _ => some "bool"
  | .int _ => some "int"
  | .str _ => some "str"
  | .tuple _ => some "tuple"
  | _ => none
/-- isinstance(.., T), answers told for none, bool, int, str, tuple -/
def isiV (r : Bool × Bool × Bool × Bool × Bool) : Vk → Option Vk
  | .im .none => some (.im (.bool r.1))
  | .im (.bool _) => some (.im (.bool r.2.1))
  | .im (.int _) => some (.im (.bool r.2.2.1))
  | .im (.str _) => some (.im (.bool r.2.2.2.1))
  | .im (.tuple _) => some (.im (.bool r.2.2.2.2))
  | _ => none
theorem em_isi {T : String} {p2 : Pos} {y : Str} (r : Bool × Bool × Bool × Bool × Bool) (h : EM X a m) (hk : kitB "NoneType" T = some r.1 ∧ kitB "bool" T = some r.2.1 ∧ kitB "int" T = some r.2.2.1 ∧ kitB "str" T = some r.2.2.2.1 ∧ kitB "tuple" T = some r.2.2.2.2)
    (hm : X.mg "isinstance" = none) (hm2 : X.mg y = none) (hv : bootBuiltins y = some (.type T)) (hn : y ≠ "__name__") (hd : (y == ("__debug__" : Str)) = false) (hg : Gl X "isinstance" := by rfl) (hg2 : Gl X y := by rfl)
    (hs1 : starEach [a, .Name y p2] X.env = (false, eval a X.env) :: starEach [.Name y p2] X.env := by rfl) (hs2 : starEach [.Name y p2] X.env = (false, eval (.Name y p2) X.env) :: starEach [] X.env := by rfl)
    (hpl : (backTo pos (starEach [.Name y p2] X.env)).any (·.1) = false := by rfl) : EM X (.Call (.Name "isinstance" p) [a, .Name y p2] [] pos) (m1 (isiV r) m) := fun G k hq => by
  obtain ⟨x, hx, h1⟩ := bnd_some hq
  obtain ⟨k1, k2, k3, k4, k5⟩ := hk
  unfold isiV at h1
  split at h1
  · cases h1; exact ek_isi (T0 := "NoneType") (h G _ hx) rfl k1 hm hm2 hv hn hd hg hg2 hs1 hs2 hpl
  · cases h1; exact ek_isi (T0 := "bool") (h G _ hx) rfl k2 hm hm2 hv hn hd hg hg2 hs1 hs2 hpl
  · cases h1; exact ek_isi (T0 := "int") (h G _ hx) rfl k3 hm hm2 hv hn hd hg hg2 hs1 hs2 hpl
  · cases h1; exact ek_isi (T0 := "str") (h G _ hx) rfl k4 hm hm2 hv hn hd hg hg2 hs1 hs2 hpl
  · cases h1; exact ek_isi (T0 := "tuple") (h G _ hx) rfl k5 hm hm2 hv hn hd hg hg2 hs1 hs2 hpl
  · cases h1
theorem em_isInt {p2 : Pos} (h : EM X a m) (hm : X.mg "isinstance" = none) (hm2 : X.mg "int" = none) (hg : Gl X "isinstance" := by rfl) (hg2 : Gl X "int" := by rfl)
    (hs1 : starEach [a, .Name "int" p2] X.env = (false, eval a X.env) :: starEach [.Name "int" p2] X.env := by rfl) (hs2 : starEach [.Name "int" p2] X.env = (false, eval (.Name "int" p2) X.env) :: starEach [] X.env := by rfl)
    (hpl : (backTo pos (starEach [.Name "int" p2] X.env)).any (·.1) = false := by rfl) : EM X (.Call (.Name "isinstance" p) [a, .Name "int" p2] [] pos) (m1 (isiV (false, true, true, false, false)) m) :=
  em_isi (T := "int") _ h (by decide +kernel) hm hm2 (by decide +kernel) (by decide +kernel) (by decide +kernel) hg hg2 hs1 hs2 hpl
theorem em_isBool {p2 : Pos} (h : EM X a m) (hm : X.mg "isinstance" = none) (hm2 : X.mg "bool" = none) (hg : Gl X "isinstance" := by rfl) (hg2 : Gl X "bool" := by rfl)
    (hs1 : starEach [a, .Name "bool" p2] X.env = (false, eval a X.env) :: starEach [.Name "bool" p2] X.env := by rfl) (hs2 : starEach [.Name "bool" p2] X.env = (false, eval (.Name "bool" p2) X.env) :: starEach [] X.env := by rfl)
    (hpl : (backTo pos (starEach [.Name "bool" p2] X.env)).any (·.1) = false := by rfl) : EM X (.Call (.Name "isinstance" p) [a, .Name "bool" p2] [] pos) (m1 (isiV (false, true, false, false, false)) m) :=
  em_isi (T := "bool") _ h (by decide +kernel) hm hm2 (by decide +kernel) (by decide +kernel) (by decide +kernel) hg hg2 hs1 hs2 hpl
theorem em_isTup {p2 : Pos} (h : EM X a m) (hm : X.mg "isinstance" = none) (hm2 : X.mg "tuple" = none) (hg : Gl X "isinstance" := by rfl) (hg2 : Gl X "tuple" := by rfl)
    (hs1 : starEach [a, .Name "tuple" p2] X.env = (false, eval a X.env) :: starEach [.Name "tuple" p2] X.env := by rfl) (hs2 : starEach [.Name "tuple" p2] X.env = (false, eval (.Name "tuple" p2) X.env) :: starEach [] X.env := by rfl)
    (hpl : (backTo pos (starEach [.Name "tuple" p2] X.env)).any (·.1) = false := by rfl) : EM X (.Call (.Name "isinstance" p) [a, .Name "tuple" p2] [] pos) (m1 (isiV (false, false, false, false, true)) m) :=
  em_isi (T := "tuple") _ h (by decide +kernel) hm hm2 (by decide +kernel) (by decide +kernel) (by decide +kernel) hg hg2 hs1 hs2 hpl

/-! ### what is walked -/
def iVal (m : MV) : MI := fun G => bnd (m G) fun k => match k with
  | .im (.tuple ds) => some (G, ds)
  | .nl ds => some (G, ds)
  | _ => none
theorem im_val (h : EM X e m) : IM X tg e (iVal m) := fun G G1 ds hq => by
  obtain ⟨x, hx, h1⟩ := bnd_some hq
  split at h1
  · cases h1
    exact ik_tup (h G _ hx)
  · cases h1
    exact ik_nl (h G _ hx)
  · cases h1
def iVar (i : Nat) : MI := fun G => match G[i]? with
  | some (.im (.tuple ds)) => some (G, ds)
  | some (.rl ds) => some (G, ds)
  | some (.ml ds) => some (G.set i (.rl ds), ds)
  | _ => none
theorem im_var (i : Nat) {x : Str} (hN : X.N[i]? = some x := by rfl) (hv : Vis X.env.scope x := by first | exact Or.inl rfl | exact Or.inr (Or.inl rfl) | exact Or.inr (Or.inr rfl))
    (hd : (x == ("__debug__" : Str)) = false := by decide) (hcd : (x == ("__classdict__" : Str)) = false := by decide) : IM X tg (.Name x pos) (iVar i) := fun G G1 ds h => by
  unfold iVar at h
  split at h
  · rename_i h1
    cases h
    exact ik_tup (ek_im i hN hv h1 hd hcd)
  · rename_i h1
    cases h
    exact ik_rl i h1 hN hv hd hcd
  · rename_i h1
    cases h
    exact ik_ml i h1 hN hv hd hcd
  · cases h
def iRange (m : MV) : MI := fun G => bnd (m G) fun k => bnd (rgV1 k) fun ds => some (G, ds)
theorem im_range (h : EM X e m) (hm : X.mg "range" = none) (hg : Gl X "range" := by rfl) (hs : starEach [e] X.env = [(false, eval e X.env)] := by rfl) : IM X tg (.Call (.Name "range" p) [e] [] pos) (iRange m) := fun G G1 ds hq => by
  obtain ⟨x, hx, h1⟩ := bnd_some hq
  obtain ⟨ds', h2, h3⟩ := bnd_some h1
  obtain ⟨n, h5, h6⟩ := bnd_some h2
  obtain ⟨h7, h8⟩ := grd_some h6
  have ex := natV_some h5
  subst ex
  cases h8
  cases h3
  exact ik_range (h G _ hx) hm (Nat.le_of_ble_eq_true h7) hg hs

/-! ### comprehensions -/
/-- one turn -/
def lcT (W : Cn) (T : Tg) (t : MT) (m : MV) (d : PyData) : Option (Option PyData) := bnd (T.put W d) fun G' => bnd (t G') fun z => match z with
  | true => bnd (m G') fun k => match k with
    | .im r => some (some r)
    | _ => none
  | false => some none
def lcGo (W : Cn) (T : Tg) (t : MT) (m : MV) : List PyData → Option (List PyData)
  | [] => some []
  | d :: ds => bnd (lcT W T t m d) fun o => bnd (lcGo W T t m ds) fun rs => match o with
    | some r => some (r :: rs)
    | none => some rs
def lcG (W : Cn) (T : Tg) (t : MT) (m : MV) (d : PyData) : Option PyData := match lcT W T t m d with
  | some o => o
  | none => none
theorem lcGo_spec {W : Cn} {T : Tg} : ∀ {ds rs : List PyData}, lcGo W T t m ds = some rs → rs = ds.filterMap (lcG W T t m) ∧ ∀ d ∈ ds, lcT W T t m d = some (lcG W T t m d)
  | [], rs, h => by
    cases h
    exact ⟨rfl, fun d hd => by cases hd⟩
  | d :: ds, rs, h => by
    obtain ⟨o, h1, h2⟩ := bnd_some h
    obtain ⟨rs', h3, h4⟩ := bnd_some h2
    obtain ⟨h5, h6⟩ := lcGo_spec h3
    have hg : lcG W T t m d = o := by unfold lcG; rw [h1]
    refine ⟨?_, fun d' hd => ?_⟩
    · cases o with
      | some r =>
        cases h4
        rw [List.filterMap_cons, hg, h5]
      | none =>
        cases h4
        rw [List.filterMap_cons, hg]
        exact h5
    · rcases List.mem_cons.mp hd with rfl | hd
      · rw [h1, hg]
      · exact h6 d' hd
/-- [elt for T in .. if t], own: the slots of its own names -/
def mLc (own : List Nat) (T : Tg) (mi : MI) (t : MT) (m : MV) : MV := fun G => bnd (mi G) fun q => grd (Nat.ble q.2.length 1000000) (bnd (lcGo (wipeG (G.map dem) own) T t m q.2) fun rs => some (.nl rs))
def tYesM : MT := fun _ => some true
abbrev bE (X : Cx) (scope : Scope) (e : Expr) (m : MV) : Prop := ∀ (s : Shared) (H : Hp) (C : Addr) (cl : List (Str × Addr)) (fp : List Addr), EM (bX X scope s H C cl fp) e m
abbrev bTs (X : Cx) (scope : Scope) (ifs : List Expr) (t : MT) : Prop := ∀ (s : Shared) (H : Hp) (C : Addr) (cl : List (Str × Addr)) (fp : List Addr), ∀ G z, t G = some z → TsK (bX X scope s H C cl fp) ifs G z
abbrev bG (X : Cx) (scope : Scope) (tg : Expr) (T : Tg) : Prop := ∀ (s : Shared) (H : Hp) (C : Addr) (cl : List (Str × Addr)) (fp : List Addr), GK (bX X scope s H C cl fp) tg T
theorem bts_nil : bTs X scope [] tYesM := fun s H C cl fp G z h => by
  cases h
  exact tsk_nil
theorem bts_one (h : ∀ (s : Shared) (H : Hp) (C : Addr) (cl : List (Str × Addr)) (fp : List Addr), TM (bX X scope s H C cl fp) c t) : bTs X scope [c] t := fun s H C cl fp G z hz => tsk_one (h s H C cl fp G z hz)
theorem lc_ok {own : List (Str × Nat)} {tg : Expr} {T : Tg} {G : Cn} {ds rs : List PyData} (ok : BlkOk X.N X.env.scope scope own) (inn : T.in_ (own.map (·.2)) = true) (tgt : bG X scope tg T) (ht : bTs X scope ifs t) (he : bE X scope elt m)
    (h : lcGo (wipeG (G.map dem) (own.map (·.2))) T t m ds = some rs) (hz : Nat.ble ds.length 1000000 = true) :
    LcT X scope own tg elt ifs T G ds (fun d => d) (lcG (wipeG (G.map dem) (own.map (·.2))) T t m) ∧ rs = ds.filterMap (lcG (wipeG (G.map dem) (own.map (·.2))) T t m) := by
  obtain ⟨h1, h2⟩ := lcGo_spec h
  refine ⟨⟨ok, inn, tgt, fun d hd => ?_, by have := Nat.le_of_ble_eq_true hz; rw [sizeLine_eq]; omega⟩, h1⟩
  have q := h2 d hd
  generalize lcG (wipeG (G.map dem) (own.map (·.2))) T t m d = o at q
  obtain ⟨G', e1, q1⟩ := bnd_some q
  obtain ⟨z, e2, q2⟩ := bnd_some q1
  clear q q1
  cases z with
  | true =>
    obtain ⟨k, e3, q3⟩ := bnd_some q2
    clear q2
    split at q3
    · cases q3
      refine ⟨G', e1, fun s H C cl fp => ht s H C cl fp G' _ e2, fun r hr s H C cl fp => ?_⟩
      cases hr
      exact he s H C cl fp G' _ e3
    · cases q3
  | false =>
    cases q2
    exact ⟨G', e1, fun s H C cl fp => ht s H C cl fp G' _ e2, fun r hr => by cases hr⟩
theorem em_lc {own : List (Str × Nat)} {tg : Expr} {T : Tg} (hi : IM X tg iter mi) (hN : X.N.Nodup) (tgt : bG X scope tg T) (ht : bTs X scope ifs t) (he : bE X scope elt m) (ok : blkC X.N X.env.scope scope own = true) (inn : T.in_ (own.map (·.2)) = true := by rfl)
    (hc : X.calm = true := by rfl) (hs : ∀ x, foldedSetIterable iter X.env x = pure x := by intro _; rfl) : EM X (.ListComp elt [⟨tg, iter, ifs, 0⟩] scope pos) (mLc (own.map (·.2)) T mi t m) := fun G k h => by
  obtain ⟨⟨G1, ds⟩, h1, h2⟩ := bnd_some h
  obtain ⟨h3, h4⟩ := grd_some h2
  obtain ⟨rs, h5, h6⟩ := bnd_some h4
  cases h6
  obtain ⟨L, rfl⟩ := lc_ok (blkOk_by ok) inn tgt ht he h5 h3
  have hi' := hi G G1 ds h1
  rw [show ds = ds.map (fun d => d) from (List.map_id' ds).symm] at hi'
  exact ek_lc hi' hN L hc hs
/-- one turn of the outer walk -/
def lc2T (W : Cn) (T T1 : Tg) (vs1 : List Nat) (mi1 : MV) (m : MV) (d : PyData) : Option (List (PyData × PyData)) := bnd (T.put W d) fun G' => bnd (mi1 G') fun k => match k with
  | .nl es => grd (Nat.ble es.length 1000000) (lc2R (wipeG G' vs1) T1 m es)
  | _ => none
where lc2R (W1 : Cn) (T1 : Tg) (m : MV) : List PyData → Option (List (PyData × PyData))
  | [] => some []
  | e :: es => bnd (T1.put W1 e) fun G'' => bnd (m G'') fun k => match k with
    | .im r => bnd (lc2R W1 T1 m es) fun rs => some ((e, r) :: rs)
    | _ => none
def lc2Go (W : Cn) (T T1 : Tg) (vs1 : List Nat) (mi1 : MV) (m : MV) : List PyData → Option (List PyData)
  | [] => some []
  | d :: ds => bnd (lc2T W T T1 vs1 mi1 m d) fun o => bnd (lc2Go W T T1 vs1 mi1 m ds) fun rs => some (o.map (·.2) ++ rs)
end
end Bk

set_option Elab.async false
set_option linter.all false
set_option maxRecDepth 100000
namespace Bk
open PySem PySem.Spec PyProof.Rows L2
section
variable {X : Cx} {e a b c elt iter tg tg1 iter1 : Expr} {es ifs : List Expr} {G : Cn} {pos p p2 p3 : Pos} {m ma mb mc me mi1 : MV} {t tt ta tb tc : MT} {ml : ML} {st : Stmt} {sts body els : List Stmt} {s1 s2 sb : MS} {mi : MI} {scope : Scope}
def lc2F (W : Cn) (T T1 : Tg) (vs1 : List Nat) (mi1 : MV) (m : MV) (d : PyData) : List (PyData × PyData) := match lc2T W T T1 vs1 mi1 m d with
  | some o => o
  | none => []
theorem lc2Go_spec {W : Cn} {T T1 : Tg} {vs1 : List Nat} : ∀ {ds rs : List PyData}, lc2Go W T T1 vs1 mi1 m ds = some rs → rs = (ds.flatMap fun d => (lc2F W T T1 vs1 mi1 m d).map fun q => q.2) ∧ ∀ d ∈ ds, lc2T W T T1 vs1 mi1 m d = some (lc2F W T T1 vs1 mi1 m d)
  | [], rs, h => by
    cases h
    exact ⟨rfl, fun d hd => by cases hd⟩
  | d :: ds, rs, h => by
    obtain ⟨o, h1, h2⟩ := bnd_some h
    obtain ⟨rs', h3, h4⟩ := bnd_some h2
    obtain ⟨h5, h6⟩ := lc2Go_spec h3
    have hg : lc2F W T T1 vs1 mi1 m d = o := by unfold lc2F; rw [h1]
    cases h4
    refine ⟨?_, fun d' hd => ?_⟩
    · rw [List.flatMap_cons, hg, ← h5]
    · rcases List.mem_cons.mp hd with rfl | hd
      · rw [h1, hg]
      · exact h6 d' hd
theorem lc2R_spec {W1 : Cn} {T1 : Tg} : ∀ {es : List PyData} {rs : List (PyData × PyData)}, lc2T.lc2R W1 T1 m es = some rs → rs.map (fun q => q.1) = es ∧ ∀ q ∈ rs, ∃ G'', T1.put W1 q.1 = some G'' ∧ m G'' = some (.im q.2)
  | [], rs, h => by
    cases h
    exact ⟨rfl, fun d hd => by cases hd⟩
  | e :: es, rs, h => by
    obtain ⟨G'', h1, h2⟩ := bnd_some h
    obtain ⟨k, h3, h4⟩ := bnd_some h2
    split at h4
    · obtain ⟨rs', h5, h6⟩ := bnd_some h4
      cases h6
      obtain ⟨h7, h8⟩ := lc2R_spec h5
      refine ⟨by rw [List.map_cons, h7], fun q hq => ?_⟩
      rcases List.mem_cons.mp hq with rfl | hq
      · exact ⟨G'', h1, h3⟩
      · exact h8 q hq
    · cases h4
def mLc2 (own vs1 : List Nat) (T T1 : Tg) (mi : MI) (mi1 : MV) (m : MV) : MV := fun G => bnd (mi G) fun q => bnd (lc2Go (wipeG (G.map dem) own) T T1 vs1 mi1 m q.2) fun rs => grd (Nat.ble rs.length 1000000) (some (.nl rs))
theorem em_lc2 {own : List (Str × Nat)} {T T1 : Tg} {vs1 : List Nat} (hi : IM X tg iter mi) (hN : X.N.Nodup) (tgt : bG X scope tg T) (tgt1 : bG X scope tg1 T1) (hi1 : bE X scope iter1 mi1) (he : bE X scope elt m) (ok : blkC X.N X.env.scope scope own = true)
    (hv : ∀ i ∈ vs1, i ∈ own.map (·.2)) (inn : T.in_ (own.map (·.2)) = true := by rfl) (inn1 : T1.in_ vs1 = true := by rfl)
    (hc : X.calm = true := by rfl) (hs : ∀ x, foldedSetIterable iter X.env x = pure x := by intro _; rfl) (hs1 : ∀ env x, foldedSetIterable iter1 env x = pure x := by intro _ _; rfl) :
    EM X (.ListComp elt [⟨tg, iter, [], 0⟩, ⟨tg1, iter1, [], 0⟩] scope pos) (mLc2 (own.map (·.2)) vs1 T T1 mi mi1 m) := fun G k h => by
  obtain ⟨⟨G1, ds⟩, h1, h2⟩ := bnd_some h
  obtain ⟨rs, h5, h6⟩ := bnd_some h2
  obtain ⟨h3, h7⟩ := grd_some h6
  cases h7
  obtain ⟨h8, h9⟩ := lc2Go_spec h5
  have hi' := hi G G1 ds h1
  rw [show ds = ds.map (fun d => d) from (List.map_id' ds).symm] at hi'
  have hz : (ds.flatMap fun d => (lc2F (wipeG (G.map dem) (own.map (·.2))) T T1 vs1 mi1 m d).map fun q => q.2).length < sizeLine := by
    have := Nat.le_of_ble_eq_true h3
    rw [← h8, sizeLine_eq]
    omega
  rw [h8]
  refine ek_lc2 (en := fun d => d) (enB := fun q : PyData × PyData => q.1) (f := fun _ q => q.2) hi' hN (blkOk_by ok) hv inn inn1 tgt tgt1 (fun d hd => ?_) hz hc hs hs1
  have q := h9 d hd
  generalize lc2F (wipeG (G.map dem) (own.map (·.2))) T T1 vs1 mi1 m d = o at q
  obtain ⟨G', e1, q1⟩ := bnd_some q
  obtain ⟨z, e2, q2⟩ := bnd_some q1
  clear q q1
  split at q2
  · obtain ⟨q3, q4⟩ := grd_some q2
    obtain ⟨q5, q6⟩ := lc2R_spec q4
    refine ⟨G', e1, fun s H C cl fp => ?_, fun e he' => ?_⟩
    · rw [q5]
      exact hi1 s H C cl fp G' _ e2
    · obtain ⟨G'', e3, e4⟩ := q6 e he'
      exact ⟨G'', e3, fun s H C cl fp => he s H C cl fp G'' _ e4⟩
  · cases q2

/-! ### calls -/
theorem mA_flat {ks : List Vk} (h : AM X es ml) (hk : ml G = some ks) : ks.all Vk.flat = true := (h G ks hk).2
/-- a promise by a mirror -/
abbrev MSp (K : PySem.W.Frag) (f : List Vk → Option Vk) : Sp := Prm K (fun _ : {a : List Vk × Vk // f a.1 = some a.2} => True) (fun a => a.1.1) fun a => a.1.2
def mCall (f : List Vk → Option Vk) (r : ML) : MV := fun G => bnd (r G) f
theorem em_call {x : Str} {k n : Nat} {ps : List Str} {f : List Vk → Option Vk} (F : Dok X.prog X.w X.K X.mg X.base x k ps (MSp X.K f)) (hr : Room n X.A) (hA : AM X (e :: es) ml)
    (hkn : Nat.ble k n = true := by rfl) (hg : Gl X x := by rfl) (hdb : (x == ("__debug__" : Str)) = false := by decide)
    (he : starEach (e :: es) X.env = (false, eval e X.env) :: starEach es X.env := by rfl) (hpl : (backTo pos (starEach es X.env)).any (·.1) = false := by rfl) : EM X (.Call (.Name x p) (e :: es) [] pos) (mCall f ml) := fun G r h => by
  obtain ⟨ks, h1, h2⟩ := bnd_some h
  exact ek_callD F hr ⟨(ks, r), h2⟩ True.intro (hA G ks h1).1 hkn (hA G ks h1).2 hg hdb he hpl

/-! ### statements -/
def setR (i : Nat) (G : Cn) : Vk → Option Res
  | .im d => grd (Nat.ble (i + 1) G.length) (some (.go (G.set i (.im d))))
  | .nl ds => grd (Nat.ble (i + 1) G.length) (some (.go (G.set i (.ml ds))))
  | _ => none
def sSet (i : Nat) (m : MV) : MS := fun G => bnd (m G) (setR i G)
theorem sm_set (i : Nat) {x : Str} {pos' : Pos} (he : EM X e m) (hN : X.N.Nodup) (hi : X.N[i]? = some x := by rfl) (hx : Loc X.env.scope x := by first | exact Or.inl rfl | exact Or.inr rfl)
    (hs : swapsWith e (some (.Name x pos')) pos.line X.env = pure false := by rfl) (hf : X.fn x = true ∨ X.env.scope.names.lookup x = some .local := by first | exact .inl rfl | exact .inr rfl) :
    SM X (.Assign [.Name x pos'] e pos) (sSet i m) := fun G r h N R hn hr => by
  obtain ⟨k, h1, h2⟩ := bnd_some h
  unfold setR at h2
  split at h2
  · obtain ⟨h3, h4⟩ := grd_some h2
    cases h4
    exact (sk_setI i (he G _ h1) hN hi hx h3 hs hf).weak fun G' e => hn G' (by rw [e])
  · obtain ⟨h3, h4⟩ := grd_some h2
    cases h4
    exact (sk_setN i (he G _ h1) hN hi hx h3 hs hf).weak fun G' e => hn G' (by rw [e])
  · cases h2
/-- x = [..] -/
theorem sm_setLc (i : Nat) {y : Str} {py spos : Pos} {own : List (Str × Nat)} {T : Tg} (hi : IM X tg iter mi) (hN : X.N.Nodup) (tgt : bG X scope tg T) (ht : bTs X scope ifs t) (he : bE X scope elt m) (ok : blkC X.N X.env.scope scope own = true)
    (hsw : swapsWith (.ListComp elt [⟨tg, iter, ifs, 0⟩] scope pos) (some (.Name y py)) spos.line X.env = pure true := by rfl) (inn : T.in_ (own.map (·.2)) = true := by rfl)
    (hy : X.N[i]? = some y := by rfl) (hyl : X.env.scope.names.lookup y = some .local := by rfl) (hc : X.calm = true := by rfl) (hs : ∀ x, foldedSetIterable iter X.env x = pure x := by intro _; rfl) :
    SM X (.Assign [.Name y py] (.ListComp elt [⟨tg, iter, ifs, 0⟩] scope pos) spos) (sSet i (mLc (own.map (·.2)) T mi t m)) := fun G r h N R hn hr => by
  obtain ⟨k, h0, h00⟩ := bnd_some h
  obtain ⟨⟨G1, ds⟩, h1, h2⟩ := bnd_some h0
  obtain ⟨h3, h4⟩ := grd_some h2
  obtain ⟨rs, h5, h6⟩ := bnd_some h4
  cases h6
  obtain ⟨h7, h8⟩ := grd_some h00
  cases h8
  obtain ⟨L, rfl⟩ := lc_ok (blkOk_by ok) inn tgt ht he h5 h3
  have hi' := hi G G1 ds h1
  rw [show ds = ds.map (fun d => d) from (List.map_id' ds).symm] at hi'
  exact (sk_setLc i hi' hN L hsw hy hyl h7 hc hs).weak fun G' e => hn G' (by rw [e])
def sRet (m : MV) : MS := fun G => bnd (m G) fun k => some (.ret k)
theorem sm_ret (he : EM X e m) : SM X (.Return (some e) pos) (sRet m) := fun G r h N R hn hr => by
  obtain ⟨k, h1, h2⟩ := bnd_some h
  cases h2
  exact sk_ret (he G _ h1) (hr k rfl)
/-- return x -/
def rdR : Option Kd → Option Vk
  | some (.im d) => some (.im d)
  | some (.ml ds) => some (.nl ds)
  | _ => none
def sRetV (i : Nat) : MS := fun G => bnd (rdR G[i]?) fun k => some (.ret k)
theorem sm_retV (i : Nat) {x : Str} (hN : X.N[i]? = some x := by rfl) (hv : Vis X.env.scope x := by first | exact Or.inl rfl | exact Or.inr (Or.inl rfl) | exact Or.inr (Or.inr rfl))
    (hd : (x == ("__debug__" : Str)) = false := by decide) (hcd : (x == ("__classdict__" : Str)) = false := by decide) : SM X (.Return (some (.Name x p)) pos) (sRetV i) := fun G r h N R hn hr => by
  obtain ⟨k, h1, h2⟩ := bnd_some h
  cases h2
  unfold rdR at h1
  split at h1
  · rename_i q
    cases h1
    exact sk_ret (ek_im i hN hv q hd hcd) (hr _ rfl)
  · rename_i q
    cases h1
    exact sk_retM i q (hr _ rfl) hN hv hd hcd
  · cases h1
def sExpr (m : MV) : MS := fun G => bnd (m G) fun _ => some (.go G)
theorem sm_expr (he : EM X e m) (hs : swapsWith e none pos.line X.env = pure false := by rfl) : SM X (.Expr e pos) (sExpr m) := fun G r h N R hn hr => by
  obtain ⟨k, h1, h2⟩ := bnd_some h
  cases h2
  exact (sk_expr (he G _ h1) hs).weak fun G' e => hn G' (by rw [e])
/-- nothing is told -/
def sBot : MS := fun _ => none
theorem sm_bot : SM X st sBot := fun G r h => by cases h
def sNil : MS := fun G => some (.go G)
def sCons (a b : MS) : MS := fun G => bnd (a G) fun r => match r with
  | .go G' => b G'
  | .ret k => some (.ret k)
theorem sms_nil : SMs X [] sNil := fun G r h N R hn hr => by
  cases h
  exact sks_nil (hn G rfl)
theorem sms_cons (h1 : SM X st s1) (h2 : SMs X sts s2) : SMs X (st :: sts) (sCons s1 s2) := fun G r h N R hn hr => by
  obtain ⟨q, q1, q2⟩ := bnd_some h
  cases q with
  | go G1 => exact sks_cons (N1 := fun G' => G' = G1) (h1 G _ q1 _ R (fun G' e => by cases e; rfl) fun k e => by cases e) fun G' e => e ▸ h2 G1 r q2 N R hn hr
  | ret k =>
    cases q2
    exact sks_cons (N1 := fun _ => False) (h1 G _ q1 _ R (fun G' e => by cases e) fun k' e => by cases e; exact hr _ rfl) fun G' e => e.elim
theorem sms_one (h1 : SM X st s1) : SMs X [st] s1 := fun G r h N R hn hr => sks_one (h1 G r h N R hn hr)
def sIf (c : MT) (a b : MS) : MS := fun G => bnd (c G) fun z => match z with
  | true => a G
  | false => b G
theorem sm_if (hc : TM X c t) (h1 : SMs X body s1) (h2 : SMs X els s2) : SM X (.If c body els pos) (sIf t s1 s2) := fun G r h N R hn hr => by
  obtain ⟨z, hz, q⟩ := bnd_some h
  clear h
  cases z with
  | true => exact sk_if (hc G _ hz) (fun _ => h1 G r q N R hn hr) fun e => by cases e
  | false => exact sk_if (hc G _ hz) (fun e => by cases e) fun _ => h2 G r q N R hn hr
def sUnp (i j : Nat) (m : MV) : MS := fun G => bnd (m G) fun k => match k with
  | .im (.tuple [d, d']) => grd (Nat.ble (i + 1) G.length && Nat.ble (j + 1) G.length) (some (.go ((G.set i (.im d)).set j (.im d'))))
  | _ => none
theorem sm_unp (i j : Nat) {x y : Str} {px py pt : Pos} {kt : Nat} (he : EM X e m) (hN : X.N.Nodup) (hc : X.calm = true := by rfl) (hi : X.N[i]? = some x := by rfl) (hj : X.N[j]? = some y := by rfl)
    (hx : Loc X.env.scope x := by first | exact Or.inl rfl | exact Or.inr rfl) (hy : Loc X.env.scope y := by first | exact Or.inl rfl | exact Or.inr rfl)
    (hfx : X.fn x = true ∨ X.env.scope.names.lookup x = some .local := by first | exact .inl rfl | exact .inr rfl) (hfy : X.fn y = true ∨ X.env.scope.names.lookup y = some .local := by first | exact .inl rfl | exact .inr rfl)
    (hs : swapsWithSole [.Tuple [.Name x px, .Name y py] kt pt] e pos.line X.env = pure false := by rfl) (hw : swappedStores [.Tuple [.Name x px, .Name y py] kt pt] e X.env = pure none := by rfl)
    (h1 : (assignEach [.Tuple [.Name x px, .Name y py] kt pt] X.env).map (·.2) = [assign (.Tuple [.Name x px, .Name y py] kt pt) X.env] := by rfl)
    (hn' : (assignEach [.Name x px, .Name y py] X.env).length = 2 := by rfl) (hst : (assignEach [.Name x px, .Name y py] X.env).findIdx? (·.1) = none := by rfl)
    (hq1 : (assignEach [.Name x px, .Name y py] X.env).map (·.2) = assign (.Name x px) X.env :: (assignEach [.Name y py] X.env).map (·.2) := by rfl) (hq2 : (assignEach [.Name y py] X.env).map (·.2) = assign (.Name y py) X.env :: (assignEach [] X.env).map (·.2) := by rfl) :
    SM X (.Assign [.Tuple [.Name x px, .Name y py] kt pt] e pos) (sUnp i j m) := fun G r h N R hn hr => by
  obtain ⟨k, q1, q2⟩ := bnd_some h
  split at q2
  · obtain ⟨q3, q4⟩ := grd_some q2
    rw [Bool.and_eq_true] at q3
    cases q4
    exact (sk_unpack2 i j (he G _ q1) hN hc hi hj hx hy q3.1 q3.2 hfx hfy hs hw h1 hn' hst hq1 hq2).weak fun G' e => hn G' (by rw [e])
  · cases q2
def sApp (i : Nat) (m : MV) : MS := fun G => match G[i]? with
  | some (.ml ds) => bnd (m G) fun k => match k with
    | .im d => grd (Nat.ble ds.length 1000000) (some (.go (G.set i (.ml (ds ++ [d])))))
    | _ => none
  | _ => none
theorem sm_app (i : Nat) {x : Str} (he : EM X e m) (hN : X.N[i]? = some x := by rfl) (hv : Vis X.env.scope x := by first | exact Or.inl rfl | exact Or.inr (Or.inl rfl) | exact Or.inr (Or.inr rfl))
    (hd : (x == ("__debug__" : Str)) = false := by decide) (hcd : (x == ("__classdict__" : Str)) = false := by decide)
    (hbase : attributeBase (.Name x p) "append" X.env (eval (.Name x p) X.env) = eval (.Name x p) X.env := by rfl)
    (hfew : ((backTo p3 (starEach (e :: []) X.env)).all (fun x => !x.1) && (backToKw p3 (keywordEach [] X.env)).all (fun x => x.1.isSome)
      && decide ((e :: []).length + ([] : List Keyword).length + (if ([] : List Keyword).isEmpty then 0 else 1) < 30)) = true := by rfl)
    (hline : (p2.endLine == p3.line) = true := by rfl) (hs : starEach (e :: []) X.env = (false, eval e X.env) :: starEach [] X.env := by rfl)
    (hsw : swapsWith (.Call (.Attribute (.Name x p) "append" p2) [e] [] p3) none pos.line X.env = pure false := by rfl) :
    SM X (.Expr (.Call (.Attribute (.Name x p) "append" p2) [e] [] p3) pos) (sApp i m) := fun G r h N R hn hr => by
  unfold sApp at h
  split at h
  · rename_i hG
    obtain ⟨k, q1, q2⟩ := bnd_some h
    split at q2
    · obtain ⟨q3, q4⟩ := grd_some q2
      cases q4
      have := Nat.le_of_ble_eq_true q3
      exact (sk_app i (he G _ q1) hG (by rw [sizeLine_eq]; omega) hN hv hd hcd hbase hfew hline hs hsw).weak fun G' e => hn G' (by rw [e])
    · cases q2
  · cases h
def sExt (i : Nat) (m : MV) : MS := fun G => match G[i]? with
  | some (.ml ds) => bnd (m G) fun k => match k with
    | .nl es => grd (Nat.ble (ds.length + es.length) 1000000) (some (.go (G.set i (.ml (ds ++ es)))))
    | _ => none
  | _ => none
theorem sm_ext (i : Nat) {x : Str} (he : EM X e m) (hN : X.N[i]? = some x := by rfl) (hv : Vis X.env.scope x := by first | exact Or.inl rfl | exact Or.inr (Or.inl rfl) | exact Or.inr (Or.inr rfl))
    (hd : (x == ("__debug__" : Str)) = false := by decide) (hcd : (x == ("__classdict__" : Str)) = false := by decide)
    (hbase : attributeBase (.Name x p) "extend" X.env (eval (.Name x p) X.env) = eval (.Name x p) X.env := by rfl)
    (hfew : ((backTo p3 (starEach (e :: []) X.env)).all (fun x => !x.1) && (backToKw p3 (keywordEach [] X.env)).all (fun x => x.1.isSome)
      && decide ((e :: []).length + ([] : List Keyword).length + (if ([] : List Keyword).isEmpty then 0 else 1) < 30)) = true := by rfl)
    (hline : (p2.endLine == p3.line) = true := by rfl) (hs : starEach (e :: []) X.env = (false, eval e X.env) :: starEach [] X.env := by rfl)
    (hsw : swapsWith (.Call (.Attribute (.Name x p) "extend" p2) [e] [] p3) none pos.line X.env = pure false := by rfl) :
    SM X (.Expr (.Call (.Attribute (.Name x p) "extend" p2) [e] [] p3) pos) (sExt i m) := fun G r h N R hn hr => by
  unfold sExt at h
  split at h
  · rename_i hG
    obtain ⟨k, q1, q2⟩ := bnd_some h
    split at q2
    · obtain ⟨q3, q4⟩ := grd_some q2
      cases q4
      exact (sk_ext i (he G _ q1) hG (size_small q3) hN hv hd hcd hbase hfew hline hs hsw).weak fun G' e => hn G' (by rw [e])
    · cases q2
  · cases h
/-- a, b = x, y -/
def sPar (i j : Nat) (ma mb : MV) : MS := fun G => bnd (ma G) fun x => bnd (mb G) fun y => grd (Nat.ble (i + 1) G.length && Nat.ble (j + 1) G.length) (match x, y with
  | .im d, .im d' => some (.go ((G.set i (.im d)).set j (.im d')))
  | .nl ds, .im d' => some (.go ((G.set i (.ml ds)).set j (.im d')))
  | _, _ => none)
theorem sm_par (i j : Nat) {x y : Str} {px py pt : Pos} {kt k2 : Nat} {pt2 : Pos} (ha : EM X a ma) (hb : EM X b mb) (hN : X.N.Nodup) (hij : i ≠ j := by decide) (hc : X.calm = true := by rfl) (hi : X.N[i]? = some x := by rfl) (hj : X.N[j]? = some y := by rfl)
    (hx : X.env.scope.names.lookup x = some .local := by rfl) (hy : X.env.scope.names.lookup y = some .local := by rfl)
    (hw : swappedStores [.Tuple [.Name x px, .Name y py] kt pt] (.Tuple [a, b] k2 pt2) X.env = pure (some [x, y]) := by rfl)
    (hs : swapsWithSole [.Tuple [.Name x px, .Name y py] kt pt] (.Tuple [a, b] k2 pt2) pos.line X.env = pure false := by rfl)
    (hs1 : starEach [a, b] X.env = (false, eval a X.env) :: starEach [b] X.env := by rfl) (hs2 : starEach [b] X.env = (false, eval b X.env) :: starEach [] X.env := by rfl) :
    SM X (.Assign [.Tuple [.Name x px, .Name y py] kt pt] (.Tuple [a, b] k2 pt2) pos) (sPar i j ma mb) := fun G r h N R hn hr => by
  obtain ⟨u, q1, q2⟩ := bnd_some h
  obtain ⟨v, q3, q4⟩ := bnd_some q2
  obtain ⟨q5, q6⟩ := grd_some q4
  rw [Bool.and_eq_true] at q5
  split at q6
  · cases q6
    exact (sk_parII i j (ha G _ q1) (hb G _ q3) hij hN hc hi hj hx hy q5.1 q5.2 hw hs hs1 hs2).weak fun G' e => hn G' (by rw [e])
  · cases q6
    exact (sk_parNI i j (ha G _ q1) (hb G _ q3) hij hN hc hi hj hx hy q5.1 q5.2 hw hs hs1 hs2).weak fun G' e => hn G' (by rw [e])
  · cases q6

/-! ### for -/
def loopM (T : Tg) (body : MS) : List PyData → Cn → Option Res
  | [], G => some (.go G)
  | d :: ds, G => bnd (T.put G d) fun G' => bnd (body G') fun r => match r with
    | .go G'' => loopM T body ds G''
    | .ret k => some (.ret k)
def sFor (T : Tg) (mi : MI) (body : MS) : MS := fun G => bnd (mi G) fun q => loopM T body q.2 q.1
theorem sm_for {T : Tg} (hi : IM X tg iter mi) (hg : GK X tg T) (hb : SMs X body sb)
    (hp : PassesOwn (model X.prog X.w) X.A X.env X.xe := by exact PassesOwn.never) (hc : X.calm = true := by rfl) (hs : ∀ x, foldedSetIterable iter X.env x = pure x := by intro _; rfl) : SM X (.For tg iter body [] pos) (sFor T mi sb) := fun G r h N R hn hr => by
  obtain ⟨⟨G1, ds⟩, h1, h2⟩ := bnd_some h
  refine sk_for (fun i G' => loopM T sb (ds.drop i) G' = some r) (hi G G1 ds h1) hg h2 (fun i d G' hd hl => ?_) (fun G' hl => ?_) hp hc hs
  · have ed : ds.drop i = d :: ds.drop (i + 1) := by
      obtain ⟨hlt, e⟩ := List.getElem?_eq_some_iff.mp hd
      rw [List.drop_eq_getElem_cons hlt, e]
    rw [ed] at hl
    obtain ⟨G2, q1, q2⟩ := bnd_some hl
    obtain ⟨r', q3, q4⟩ := bnd_some q2
    refine ⟨G2, q1, ?_⟩
    cases r' with
    | go G3 => exact hb G2 _ q3 _ R (fun G4 e => by cases e; exact q4) fun k e => by cases e
    | ret k =>
      cases q4
      exact hb G2 _ q3 _ R (fun G4 e => by cases e) fun k' e => by cases e; exact hr _ rfl
  · rw [List.drop_length] at hl
    cases hl
    exact hn G' rfl

/-! ### defs -/
def defM (n N : Nat) (body : MS) : List Vk → Option Vk := fun ks => grd (Nat.beq ks.length n) (bnd (body (ks.map Vk.kd ++ List.replicate (N - ks.length) .no)) fun r => match r with
  | .ret k => some k
  | .go _ => some (.im .none))
end
theorem okM {P : Program} {w : World} {K : PySem.W.Frag} {mg : Str → Option Value} {base : Heap} {x : Str} {st : Stmt} {N ps : List Str} {n nn np : Nat} {m : MS} (T : Txt K mg x st) (S : FnScope N ps (defScope st))
    (hb : ∀ (kV doc pm : Value) (an : Option Addr) (cdv ct : Value) (us : List Value), us.length = ps.length → bindArgs (PySem.W.fnOf x x (defArgs st) (defBody st) (defScope st) .none kV doc pm an cdv ct) ⟨us, []⟩ = pure (ps.zip us))
    (hN : N.length = nn) (hps : ps.length = np)
    (hbody : ∀ (f : Addr) (cdv : Value) (A : Around) (outer : List Env) (s : Shared) (H : Hp) (E : XK), Room n (A.deeper (envOfC x (defScope st) s.heap.objs.size f cdv)) →
      SMs (cxOf CX0 P w K mg base N x (defScope st) f cdv A outer s H E).nox (defBody st) m) : Dok P w K mg base x (n + 1) ps (MSp K (defM np nn m)) := by
  refine dok T S hb (fun a => gOf N a.1.1) (fun _ => rfl) (fun a => ?_) ?_
  · obtain ⟨⟨ks, r⟩, h⟩ := a
    obtain ⟨h1, _⟩ := grd_some h
    rw [hps]
    exact Nat.eq_of_beq_eq_true h1
  · rintro ⟨⟨ks, r⟩, h⟩ _ f cdv A outer s H E hr
    obtain ⟨h1, h2⟩ := grd_some h
    obtain ⟨q, h3, h4⟩ := bnd_some h2
    rw [← hN] at h3
    refine hbody f cdv A outer s H E hr _ q h3 _ _ (fun G' e => ?_) fun k e => ?_
    · subst e
      cases h4
      rfl
    · subst e
      cases h4
      rfl
end Bk

set_option Elab.async false
set_option linter.all false
set_option maxRecDepth 100000
/-! more that is walked: enumerate over a tuple, zip over tuples -/
namespace PySem
set_option maxHeartbeats 1000000 in
theorem meets_enum_one {v : Value} {o : Obj} {HB : Heap → Prop} (B : Begins v o HB) :
    Meets (Builtin.«enumerate.__new__» ⟨[.type "enumerate", v], []⟩) (fun _ R s => HB s.heap ∧
      R (.ok (.ret (.ref (s.heap.push o).objs.size))) { s with heap := (s.heap.push o).push { cls := .type "enumerate", data := .fields #[.none, .bool false, .ref s.heap.objs.size, rawInt 0, .none, .none] } }) :=
  .of_wp fun prog w A R s hR => by
    obtain ⟨hp, ge, dr, tks, oo⟩ := s
    obtain ⟨hb, hR⟩ := hR
    have su := sub_enumerate
    have it1 : ∀ {A' : Around} {E : Value → Shared → Prop} {Q : Value → Shared → Prop}, Q (.ref hp.objs.size) ⟨hp.push o, ge, dr, tks, oo⟩ → wpAny (model prog w) A' (pyIter v) Q E ⟨hp, ge, dr, tks, oo⟩ :=
      fun q => B.iter prog w _ _ ⟨hp, ge, dr, tks, oo⟩ _ hb q
    wp_walk using it1
    refine wpAny_stack_any fun sk => wpAny_pure ?_
    split
    · rename_i c _ _ _ _ _
      cases (c == Value.type "enumerate")
      · wp_walk using it1
        exact ⟨_, rfl, hR⟩
      · wp_walk using it1
        exact ⟨_, rfl, hR⟩
    · wp_walk using it1
      exact ⟨_, rfl, hR⟩
section
variable {prog : Program} {w : World} {A : Around} {E : Value → Shared → Prop} {s : Shared}
theorem enum_one_begins {v : Value} {o : Obj} {HB : Heap → Prop} {Q : Value → Shared → Prop} (B : Begins v o HB) (hb : HB s.heap)
    (hq : ∀ h', IsEnum h' (s.heap.objs.size + 1) s.heap.objs.size 0 .none → h'.get? s.heap.objs.size = some o → h'.objs.size = s.heap.objs.size + 2 →
      (∀ c x, s.heap.get? c = some x → h'.get? c = some x) → Q (.ref (s.heap.objs.size + 1)) { s with heap := h' }) :
    wpAny (model prog w) A (call (.type "enumerate") [v]) Q E s := by
  refine callType_new F.called_enumerate (by decide) (F.typeCall_enumerate_1 _) (F.newCall_enumerate_1 _) (fun obj => F.args_object_init_2 obj _) F.entry_enumerate_new (meets_enum_one B) ⟨hb, ?_⟩
  have sz : (s.heap.push o).objs.size = s.heap.objs.size + 1 := Heap.size_push ..
  show _ ∧ _
  rw [sz]
  have ie : IsEnum ((s.heap.push o).push { cls := .type "enumerate", data := .fields #[.none, .bool false, .ref s.heap.objs.size, rawInt 0, .none, .none] }) (s.heap.objs.size + 1) s.heap.objs.size 0 .none := by
    have q := Heap.get?_push_size (s.heap.push o) (o := { cls := .type "enumerate", data := .fields #[.none, .bool false, .ref s.heap.objs.size, rawInt 0, .none, .none] }) rfl
    rw [sz] at q
    exact q
  exact ⟨⟨_, ie, rfl⟩, hq _ ie (Heap.get?_push_of_some _ (Heap.get?_push_size _ B.free)) (by rw [Heap.size_push, sz]) fun c x e => Heap.get?_push_of_some _ (Heap.get?_push_of_some _ e)⟩
end
end PySem
namespace Bk
open PySem PySem.Spec PyProof.Rows L2
/-- the tuple at a, each item in a new pair with its number -/
def IteT (K : PySem.W.Frag) (a : Addr) : It :=
  ⟨fun i H => ∃ (zs : List V) (z : V), SqT K H a zs ∧ zs[i]? = some z, fun i H v H' => ∃ B z, v = .ref B ∧ H B = none ∧ H' = upd H B (.tup [.int (i : Nat), z]) ∧ ∀ zs, SqT K H a zs → zs[i]? = some z, fun i H => ∃ zs : List V, SqT K H a zs ∧ zs.length = i⟩
theorem turn_enumT {P : Program} {w : World} {K : PySem.W.Frag} {elts : List Expr} {kk : Nat} {tpos : Pos} (a e it : Addr) :
    Turn P w K (.Tuple elts kk tpos) (IteT K a) [e, it] e (fun i h => (∃ old, IsEnum h e it ((i : Nat) : Int) old) ∧ h.IsTupleIter it a i ∧ e ≠ it ∧ a ≠ it ∧ e ≠ a) where
  mem := by simp
  obj := fun i h stt c hc => by
    obtain ⟨⟨old, ie⟩, ⟨u, hu, hcu, hdu⟩, _⟩ := stt
    have two : c = e ∨ c = it := by simpa using hc
    rcases two with z | z
    · subst z
      exact ⟨_, ie, fun v q => by cases q⟩
    · subst z
      exact ⟨u, hu, fun v q => by rw [hdu] at q; cases q⟩
  keep := fun i h h' stt k => by
    obtain ⟨⟨old, ie⟩, ii, n1, n2, n3⟩ := stt
    exact ⟨⟨old, k e (by simp) _ ie⟩, ii.at fun u q => k it (by simp) u q, n1, n2, n3⟩
  item := by
    intro X e1 e2 e3 hc i pins s σ H E I hf stt hg
    subst e1 e2 e3
    obtain ⟨⟨old, ie⟩, ii, n1, n2, n3⟩ := stt
    obtain ⟨zs, z, hz, hzi⟩ := hg
    obtain ⟨its, rv, p, _⟩ := I.tuple hz
    obtain ⟨u, hu, ru⟩ := rv.get hzi
    have l1 : e < s.heap.objs.size := Heap.lt_size ie
    have l2 : it < s.heap.objs.size := by
      obtain ⟨_, q, _⟩ := ii
      exact Heap.lt_size q
    have hlt : i < its.toArray.size := by
      obtain ⟨q, _⟩ := List.getElem?_eq_some_iff.mp hu
      simpa using q
    refine wpAny_pyNext_enum_itemD (Draws.tuple (A := X.A.in1) (I.ok.hd hc) it a n2 its.toArray) ie ⟨ii, p⟩ hlt n1 (by simp [n1, n3]) fun x h' tk hx ho st' hT hsz hk => ?_
    have ex : x = u := by
      have hu' : its.toArray[i]? = some u := by simpa using hu
      rw [hu'] at hx
      exact (Option.some.inj hx).symm
    subst ex
    refine ⟨_, rfl, wpAny_letOwnedTupleGo_enum (s := { s with heap := h', toks := tk + 1 }) ho fun h'' he' sb => ?_⟩
    have hT2 : h''.get? s.heap.objs.size = some { cls := .type "tuple", data := .seq #[.int i tk, x] } := (sb.2 _ (Nat.ne_of_gt l1)).trans hT
    have neu : ObjOk X.prog X.w (upd H s.heap.objs.size (.tup [.int (i : Nat), z])) h'' s.heap.objs.size (.tup [.int (i : Nat), z]) :=
      ⟨by show 2 ≤ sizeLine; rw [sizeLine_eq]; omega, [.int i tk, x], .cons ⟨_, rfl⟩ (.cons ru .nil), ⟨_, hT2, rfl, _, rfl⟩⟩
    have J : Inv X pins σ (upd H s.heap.objs.size (.tup [.int (i : Nat), z])) { s with heap := h'', toks := tk + 1 } :=
      I.turnedNew (ch := [e, it]) (fun c oc hb q => (sb.2 c (fun r => hb (by simp [r]))).trans (hk c oc (fun r => hb (by simp [r])) (fun r => hb (by simp [r])) q)) hf (Nat.le_refl _) neu
    refine ⟨.ref s.heap.objs.size, _, J, rfl, ⟨_, z, rfl, I.hok.fresh (Nat.le_refl _), rfl, fun ys hy => by rw [I.tuple_inj hy hz]; exact hzi⟩, ⟨⟨x, ?_⟩, st'.1.at fun oc q => (sb.2 it (Ne.symm n1)).trans q, n1, n2, n3⟩, fun c hb => ?_⟩
    · rw [show ((i + 1 : Nat) : Int) = (i : Int) + 1 by omega]
      exact he'
    · have two : c = e ∨ c = it := by simpa using hb
      have lc : c < s.heap.objs.size := by
        rcases two with r | r
        · rw [r]; exact l1
        · rw [r]; exact l2
      rw [upd_ne (Nat.ne_of_lt lc)]
      exact (hf c hb).1
  done := by
    intro X e1 e2 e3 hc i pins s σ H E I hf stt hg
    subst e1 e2 e3
    obtain ⟨⟨old, ie⟩, ii, n1, n2, n3⟩ := stt
    obtain ⟨zs, hz, hend⟩ := hg
    obtain ⟨its, rv, p, _⟩ := I.tuple hz
    obtain ⟨f0, f1, f2, f3, f4, f5⟩ := hf it (by simp)
    have hl := rv.length
    have ei : i = its.toArray.size := by simp; omega
    subst ei
    exact wpAny_pyNext_enum_endD (Draws.tuple (A := X.A.in1) (I.ok.hd hc) it a n2 its.toArray) ie ⟨ii, p⟩ fun h' eb => ⟨rfl, I.turned (t' := s.toks) (fun c oc hb q => eb c oc hb q) f0 f1 f3 f4 f5⟩
  self := fun A i s Q E stt h => by
    obtain ⟨⟨_, ie⟩, _⟩ := stt
    exact wpAny_pyIter_enum ie h
def iEnT (K : PySem.W.Frag) (ta : TA) : TI := fun σ H R => ta σ H fun vs H1 => ∃ a zs, vs = [.ref a] ∧ SqT K H1 a zs ∧ R (IteT K a) H1
theorem pi_enumT {X : Cx} {e : Expr} {ta : TA} {p pos tpos : Pos} {elts : List Expr} {kk : Nat} (hg : Gl X "enumerate") (hm : X.mg "enumerate" = none) (ha : PA X [e] ta) (hs : starEach [e] X.env = [(false, eval e X.env)] := by rfl) :
    PI X (.Tuple elts kk tpos) (.Call (.Name "enumerate" p) [e] [] pos) (iEnT X.K ta) := by
  refine ⟨fun pins s σ H R I hq => ?_⟩
  refine Call_ (ld_blt I hg hm boot_enumerate (PyProof.Rows.callWith_type1 (thn (ha.run pos pins s σ H _ I hq) fun us s1 ⟨vs, H1, J, r1, q1⟩ => ?_) hs rfl))
  obtain ⟨a, zs, ev, hz, q⟩ := q1
  subst ev
  cases r1 with
  | cons r rr =>
    cases rr
    cases r
    obtain ⟨its, rv, pt, _⟩ := J.tuple hz
    have la : a < s1.heap.objs.size := by
      obtain ⟨o, ho, _⟩ := id pt
      exact Heap.lt_size ho
    refine enum_one_begins (begins_tuple a its.toArray) (show s1.heap.IsTuple a its.toArray from pt) fun h' ie hit hsz hk => wpAny_pyIter_enum ie ?_
    have J2 : Inv X pins σ H1 { s1 with heap := h' } := J.kept (t' := s1.toks) hk
    refine ⟨s1.heap.objs.size + 1, [s1.heap.objs.size + 1, s1.heap.objs.size], _, _, H1, rfl, J2, turn_enumT a (s1.heap.objs.size + 1) s1.heap.objs.size, ⟨⟨.none, ie⟩, ⟨_, hit, rfl, rfl⟩, Nat.succ_ne_self _, Nat.ne_of_lt la, ?_⟩, fun c hb => ?_, q⟩
    · exact Nat.ne_of_gt (Nat.lt_succ_of_lt la)
    · have two : c = s1.heap.objs.size + 1 ∨ c = s1.heap.objs.size := by simpa using hb
      have lc : s1.heap.objs.size ≤ c := by
        rcases two with r | r
        · rw [r]; exact Nat.le_succ _
        · rw [r]; exact Nat.le_refl _
      exact J.fpOk lc (J.hok.fresh lc)
theorem walk_enumT {K : PySem.W.Frag} {a : Addr} {xs : List V} : Walk (IteT K a) xs.length (fun H => SqT K H a xs) (YPair (fun i => some (.int (i : Nat))) (fun i => xs[i]?)) := by
  refine ⟨fun i _ hi q => ⟨xs, xs[i], q, by simp [hi]⟩, fun _ q => ⟨xs, q, rfl⟩, fun i H v H' _ q y => ?_⟩
  obtain ⟨B, z, y1, y2, y3, y4⟩ := y
  exact ⟨B, .int (i : Nat), z, y1, y2, y3, rfl, y4 xs q⟩
/-- the items of ds with their numbers, from n on -/
def numb : Nat → List PyData → List PyData
  | _, [] => []
  | n, d :: ds => .tuple [.int (n : Nat), d] :: numb (n + 1) ds
theorem numb_length : ∀ (n : Nat) (ds : List PyData), (numb n ds).length = ds.length
  | _, [] => rfl
  | n, d :: ds => congrArg Nat.succ (numb_length (n + 1) ds)
theorem numb_get : ∀ {n i : Nat} {ds : List PyData} {d : PyData}, ds[i]? = some d → (numb n ds)[i]? = some (.tuple [.int ((n + i : Nat) : Int), d])
  | n, 0, d' :: ds, d, e => by
    have e' : d' = d := by simpa using e
    rw [e']
    rfl
  | n, i + 1, d' :: ds, d, e => by
    have q := numb_get (n := n + 1) (i := i) (ds := ds) (d := d) (by simpa using e)
    rw [show n + (i + 1) = n + 1 + i by omega]
    exact q
theorem itOk_pair {K : PySem.W.Frag} {P : Hp} {J : It} {n : Nat} {Gd : Hp → Prop} {fx fy : Nat → Option V} {ds : List PyData} (hG : ∀ H, Same P H → Gd H) (wk : Walk J n Gd (YPair fx fy)) (hn : ds.length = n)
    (hd : ∀ i x y, fx i = some x → fy i = some y → ∃ d d', ds[i]? = some (.tuple [d, d']) ∧ imm d = true ∧ imm d' = true ∧ Dp K P x d ∧ Dp K P y d') : ItOk K P J ds := by
  refine ⟨Gd, hG, ?_⟩
  rw [hn]
  refine wk.mono (fun _ q => q) fun i H v H' hi _ y => ?_
  obtain ⟨B, x, z, rfl, y2, y3, y4, y5⟩ := y
  obtain ⟨d, d', h1, h2, h3, h4, h5⟩ := hd i x z y4 y5
  subst y3
  refine ⟨same_upd y2, _, h1, imm_tuple (immAll_cons h2 (immAll_cons h3 immAll_nil)), fun e => ?_⟩
  have e' := e.trans (same_upd (o := .tup [x, z]) y2)
  exact .tup (SqT.of upd_same) (.cons (Dp.same e' _ _ h4) (.cons (Dp.same e' _ _ h5) .nil))
section
variable {X : Cx} {e a b : Expr} {elts : List Expr} {p pos tpos : Pos} {kk : Nat} {m ma mb : MV}
def iEnum (m : MV) : MI := fun G => bnd (m G) fun k => match k with
  | .im (.tuple ds) => some (G, numb 0 ds)
  | .nl ds => some (G, numb 0 ds)
  | _ => none
theorem ik_enumT {G : Cn} {ds : List PyData} (h : EK X e G (.im (.tuple ds))) (hm : X.mg "enumerate" = none) (hg : Gl X "enumerate" := by rfl) (hs : starEach [e] X.env = (false, eval e X.env) :: starEach [] X.env := by rfl) :
    IK X (.Tuple elts kk tpos) (.Call (.Name "enumerate" p) [e] [] pos) G G (numb 0 ds) := fun P σ H Q s q =>
  to_wI (pi_enumT hg hm (pa_cons pe_w pa_nil hs) hs) (h P σ H _ s fun v H1 e1 o => by
    obtain ⟨b, xs, rfl, h1, h2⟩ := o.2.tup_inv
    have s1 := s.later e1
    have t := prot_ts (K := X.K) s1.same
    have im := imm_of_tuple o.1
    refine ⟨b, xs, rfl, h1, q (prot P H1) (IteT X.K b) H1 prot_same s1.prot e1 (itOk_pair (fun H e => Tst.same e _ _ (t _ _ h1)) walk_enumT (by rw [numb_length, DpAll.length h2]) fun i x y hx hy => ?_)⟩
    cases hx
    obtain ⟨d, hd, hv⟩ := (DpAll.keep t _ _ im h2).getV hy
    refine ⟨.int (i : Nat), d, ?_, imm_int _, imm_get im hd, .int _, hv⟩
    rw [numb_get hd, Nat.zero_add])
theorem ik_enumL {G : Cn} {ds : List PyData} (h : EK X e G (.nl ds)) (hm : X.mg "enumerate" = none) (hg : Gl X "enumerate" := by rfl) (hs : starEach [e] X.env = (false, eval e X.env) :: starEach [] X.env := by rfl) :
    IK X (.Tuple elts kk tpos) (.Call (.Name "enumerate" p) [e] [] pos) G G (numb 0 ds) := fun P σ H Q s q =>
  to_wI (pi_enum hg hm (pa_cons pe_w pa_nil hs) hs) (h P σ H _ s fun v H1 e1 o => by
    obtain ⟨im, b, xs, rfl, h0, h1, h2⟩ := o
    have s1 := s.later e1
    obtain ⟨k1, k2, k3, k4⟩ := keepL s1 (s.same.free h0) h1 fun i es hg hσ => by
      obtain ⟨b', ys, q1, _, _, q4, _⟩ := s.ml hg
      rw [hσ] at q1
      cases q1
      rw [h0] at q4
      cases q4
    have dk := DpAll.keep k4 _ _ im h2
    refine ⟨b, xs, rfl, SqL.of h1, q _ (Ite X.K b) H1 k1 k2 e1 (itOk_pair (fun H e => e.seq k3) walk_enum (by rw [numb_length, DpAll.length h2]) fun i x y hx hy => ?_)⟩
    cases hx
    obtain ⟨d, hd, hv⟩ := dk.getV hy
    refine ⟨.int (i : Nat), d, ?_, imm_int _, imm_get im hd, .int _, hv⟩
    rw [numb_get hd, Nat.zero_add])
theorem im_enum (h : EM X e m) (hm : X.mg "enumerate" = none) (hg : Gl X "enumerate" := by rfl) (hs : starEach [e] X.env = (false, eval e X.env) :: starEach [] X.env := by rfl) :
    IM X (.Tuple elts kk tpos) (.Call (.Name "enumerate" p) [e] [] pos) (iEnum m) := fun G G1 ds hq => by
  obtain ⟨k, h1, h2⟩ := bnd_some hq
  split at h2
  · cases h2
    exact ik_enumT (h G _ h1) hm hg hs
  · cases h2
    exact ik_enumL (h G _ h1) hm hg hs
  · cases h2
/-- zip of two tuples -/
theorem walk_zipT {K : PySem.W.Frag} {a b : Addr} {xs ys : List V} {n : Nat} (hn : n = min xs.length ys.length) : Walk (RZ.ItzT K a b) n (fun H => SqT K H a xs ∧ SqT K H b ys) (YPair (fun i => xs[i]?) (fun i => ys[i]?)) := by
  subst hn
  refine ⟨fun i _ hi q => ?_, fun _ q => ⟨xs, ys, q.1, q.2, by omega⟩, fun i H v H' _ q y => ?_⟩
  · have l1 : i < xs.length := by omega
    have l2 : i < ys.length := by omega
    exact ⟨xs, ys, xs[i], ys[i], q.1, q.2, by simp [l1], by simp [l2]⟩
  · obtain ⟨B, x, z, y1, y2, y3, y4, y5⟩ := y
    exact ⟨B, x, z, y1, y2, y3, y4 xs q.1, y5 ys q.2⟩
def zipD : List PyData → List PyData → List PyData
  | d :: ds, e :: es => .tuple [d, e] :: zipD ds es
  | _, _ => []
theorem zipD_length : ∀ {ds es : List PyData}, (zipD ds es).length = min ds.length es.length
  | [], _ => by simp [zipD]
  | _ :: _, [] => by simp [zipD]
  | d :: ds, e :: es => by
    unfold zipD
    rw [List.length_cons, zipD_length, List.length_cons, List.length_cons]
    omega
theorem zipD_get : ∀ {ds es : List PyData} {i : Nat} {d d' : PyData}, ds[i]? = some d → es[i]? = some d' → (zipD ds es)[i]? = some (.tuple [d, d'])
  | a :: ds, b :: es, 0, d, d', h1, h2 => by
    have e1 : a = d := by simpa using h1
    have e2 : b = d' := by simpa using h2
    rw [e1, e2]
    rfl
  | a :: ds, b :: es, i + 1, d, d', h1, h2 => zipD_get (ds := ds) (es := es) (i := i) (by simpa using h1) (by simpa using h2)
  | [], _, _, _, _, h1, _ => by simp at h1
  | _ :: _, [], _, _, _, _, h2 => by simp at h2
def iZip (ma mb : MV) : MI := fun G => bnd (ma G) fun x => bnd (mb G) fun y => match x, y with
  | .im (.tuple ds), .im (.tuple es) => some (G, zipD ds es)
  | _, _ => none
theorem im_zip (ha : EM X a ma) (hb : EM X b mb) (hm : X.mg "zip" = none) (hg : Gl X "zip" := by rfl) (hs : starEach [a, b] X.env = (false, eval a X.env) :: starEach [b] X.env := by rfl) (hs2 : starEach [b] X.env = (false, eval b X.env) :: starEach [] X.env := by rfl)
    (hpl : (backTo pos (starEach [b] X.env)).any (·.1) = false := by rfl) : IM X (.Tuple elts kk tpos) (.Call (.Name "zip" p) [a, b] [] pos) (iZip ma mb) := fun G G1 zs hq P σ H Q s q => by
  obtain ⟨x, hx, q1⟩ := bnd_some hq
  obtain ⟨y, hy, q2⟩ := bnd_some q1
  split at q2
  · cases q2
    refine to_wI (RZ.pi_zipA hg hm (pa_cons pe_w (pa_cons pe_w pa_nil hs2) hs) hs hpl) (ha G _ hx P σ H _ s fun v H1 e1 o1 => hb G _ hy P σ H1 _ (s.later e1) fun u H2 e2 o2 => ?_)
    obtain ⟨r1, xs, rfl, h1, h2⟩ := (Dp.same e2 _ _ o1.2).tup_inv
    obtain ⟨r2, ys, rfl, h3, h4⟩ := o2.2.tup_inv
    have s2 := s.later (e1.trans e2)
    have t := prot_ts (K := X.K) s2.same
    have im1 := imm_of_tuple o1.1
    have im2 := imm_of_tuple o2.1
    have d1 := DpAll.keep t _ _ im1 h2
    have d2 := DpAll.keep t _ _ im2 h4
    refine ⟨r1, r2, xs, ys, rfl, .inr ⟨h1, h3, q (prot P H2) (RZ.ItzT X.K r1 r2) H2 prot_same s2.prot (e1.trans e2) (itOk_pair (fun H e => ⟨Tst.same e _ _ (t _ _ h1), Tst.same e _ _ (t _ _ h3)⟩) (walk_zipT rfl) (by rw [zipD_length, DpAll.length h2, DpAll.length h4]) fun i x y hx hy => ?_)⟩⟩
    obtain ⟨d, hd, hv⟩ := d1.getV hx
    obtain ⟨d', hd', hv'⟩ := d2.getV hy
    exact ⟨d, d', zipD_get hd hd', imm_get im1 hd, imm_get im2 hd', hv, hv'⟩
  · cases q2
/-- xs.index(e) -/
def idxGo (d : PyData) : Nat → List PyData → Option Vk
  | _, [] => none
  | n, z :: zs => match PyData.eqv z d with
    | true => some (.im (.int (n : Nat)))
    | false => idxGo d (n + 1) zs
theorem idxGo_spec {d : PyData} : ∀ {zs : List PyData} {n : Nat} {k : Vk}, idxGo d n zs = some k → ∃ (j : Nat) (z : PyData), k = .im (.int ((n + j : Nat) : Int)) ∧ zs[j]? = some z ∧ PyData.eqv z d = true ∧ ∀ (m : Nat) (z' : PyData), m < j → zs[m]? = some z' → PyData.eqv z' d = false
  | [], n, k, h => by cases h
  | z :: zs, n, k, h => by
    unfold idxGo at h
    cases q : PyData.eqv z d with
    | true =>
      rw [q] at h
      cases h
      exact ⟨0, z, rfl, rfl, q, fun m z' hm => by omega⟩
    | false =>
      rw [q] at h
      obtain ⟨j, z1, h1, h2, h3, h4⟩ := idxGo_spec (show idxGo d (n + 1) zs = some k from h)
      refine ⟨j + 1, z1, by rw [h1, show n + 1 + j = n + (j + 1) by omega], by simpa using h2, h3, fun m z' hm hz => ?_⟩
      cases m with
      | zero =>
        have e : z = z' := by simpa using hz
        rw [← e]
        exact q
      | succ m => exact h4 m z' (by omega) (by simpa using hz)
def idxV (x y : Vk) : Option Vk := bnd (asS x) fun ds => match y with
  | .im d => grd (SeqAt.shaped (.list ds) && SeqAt.shaped d) (idxGo d 0 ds)
  | _ => none
theorem em_index {p2 p3 : Pos} (hu : X.A.units + 64 < cLine) (hu' : X.A.units + 65 < cLine) (ha : EM X a ma) (hb : EM X b mb) (hbase : attributeBase a "index" X.env (eval a X.env) = eval a X.env := by rfl)
    (hfew : ((backTo p3 (starEach (b :: []) X.env)).all (fun x => !x.1) && (backToKw p3 (keywordEach [] X.env)).all (fun x => x.1.isSome)
      && decide ((b :: []).length + ([] : List Keyword).length + (if ([] : List Keyword).isEmpty then 0 else 1) < 30)) = true := by rfl)
    (hline : (p2.endLine == p3.line) = true := by rfl) (hs : starEach (b :: []) X.env = (false, eval b X.env) :: starEach [] X.env := by rfl) : EM X (.Call (.Attribute a "index" p2) [b] [] p3) (m2 idxV ma mb) := fun G k h P σ H Q s q => by
  obtain ⟨x, hx, h1⟩ := bnd_some h
  obtain ⟨y, hy, h2⟩ := bnd_some h1
  obtain ⟨ds, h3, h4⟩ := bnd_some h2
  split at h4
  · rename_i d
    obtain ⟨h5, h6⟩ := grd_some h4
    rw [Bool.and_eq_true] at h5
    obtain ⟨j, z, rfl, h7, h8, h9⟩ := idxGo_spec h6
    rw [Nat.zero_add] at q
    refine to_wE (pe_bm PySem.F.plainAttrs_list PySem.F.slot_list_index PySem.F.type_list_index (mt_indexD hu') pe_w (pa_cons pe_w pa_nil hs) hbase hfew hline hs rfl) (((ha G _ hx).weak (asS_some h3)) P σ H _ s fun v H1 e1 o1 => ?_)
    obtain ⟨r, xs, rfl, k1, k2⟩ := o1.2.lst_inv
    refine ⟨.inl ⟨rfl, xs, k1⟩, hb G _ hy P σ H1 _ (s.later e1) fun u H2 e2 o2 => ⟨r, u, d, ds, j, z, rfl, rfl, Dp.same e2 _ _ o1.2, o2.2, h5.1, h5.2, h7, h8, h9, q _ H2 (e1.trans e2) ⟨imm_int _, .int _⟩⟩⟩
  · cases h4
end
end Bk

set_option Elab.async false
set_option linter.all false
set_option maxRecDepth 100000
set_option maxHeartbeats 4000000
namespace L2
open PySem PySem.Spec PyProof.Rows
/-! tuple * 0, tuple * 1 -/
theorem tup_mul_one (l : Addr) (items : Array Value) (n : Nat) (dd : Option Addr) (sl : Array (Option Value)) (u : Tok) :
    Meets (Builtin.«tuple.__mul__» ⟨[.ref l, .int 1 u], []⟩) (fun _ R s => s.heap.get? l = some { cls := .type "tuple", dict := dd, data := .seq items n, slots := sl } ∧ R (.ok (.ret (Value.ref l))) s) :=
  .of_wp fun prog w A R s hR => by
    obtain ⟨hp, ge, dr, tks, oo⟩ := s
    obtain ⟨hl, hR⟩ := hR
    have f1 := AutoSeq1.idx_int
    have e1 : (items.isEmpty || (1 : Int) == 1) = true := by simp
    wp_walk using wpAny_loadPart' hl
    repeat (first
      | (refine wpAny_ite_true (decide_eq_true e1) ?_; wp_walk using wpAny_loadPart' hl)
      | (refine wpAny_ite_true e1 ?_; wp_walk using wpAny_loadPart' hl))
    exact ⟨_, rfl, hR⟩
theorem tup_mul_zero (l : Addr) (items : Array Value) (n : Nat) (dd : Option Addr) (sl : Array (Option Value)) (u : Tok) (hne : items.isEmpty = false) :
    Meets (Builtin.«tuple.__mul__» ⟨[.ref l, .int 0 u], []⟩) (fun _ R s => s.heap.get? l = some { cls := .type "tuple", dict := dd, data := .seq items n, slots := sl } ∧
      R (.ok (.ret (Value.ref s.heap.objs.size))) { s with heap := s.heap.push { cls := Value.type "tuple", data := Data.seq #[] }, toks := s.toks }) :=
  .of_wp fun prog w A R s hR => by
    obtain ⟨hp, ge, dr, tks, oo⟩ := s
    obtain ⟨hl, hR⟩ := hR
    have f1 := AutoSeq1.idx_int
    have e1 : (items.isEmpty || (0 : Int) == 1) = false := by simp [hne]
    wp_walk using wpAny_loadPart' hl
    repeat (first
      | (refine wpAny_ite_false (decide_eq_false (by rw [e1]; exact Bool.false_ne_true)) ?_; wp_walk using wpAny_loadPart' hl)
      | (refine wpAny_ite_true (by simp) ?_; wp_walk using wpAny_loadPart' hl))
    exact ⟨_, rfl, hR⟩
def rRep1 (K : PySem.W.Frag) : R2 := fun x y H Q => ∃ l xs, x = .ref l ∧ y = .int 1 ∧ SqT K H l xs ∧ Q (.ref l) H
def rRep0 (K : PySem.W.Frag) : R2 := fun x y H Q => ∃ l xs, x = .ref l ∧ y = .int 0 ∧ SqT K H l xs ∧ xs ≠ [] ∧ ∀ p, H p = none → Q (.ref p) (upd H p (.tup []))
section
variable {X : Cx}
theorem op_rep1 : OpR X (binaryOp .Mult) (rRep1 X.K) := by
  intro pins s σ H x y v u Q I rx ry hq
  obtain ⟨l, xs, rfl, rfl, hT, q⟩ := hq
  cases rx
  obtain ⟨t, rfl⟩ := ry
  obtain ⟨its, r, ⟨⟨cls, dd, data, sl⟩, ho, hc, n, hd⟩, hs⟩ := I.tuple hT
  dsimp only at hc hd
  subst hc hd
  exact wpAny_binaryOp_repeat_ref (T := "tuple") (U := "int") (by decide) ⟨_, ho, rfl⟩ (fun s' => typeIs_int s' 1 t) noFill_tuple_mul F.fills_int_mul F.slot_int_rmul repeat_tuple F.slot_int_index.lookup
    (call_meets F.slot_int_rmul (typeIs_int s 1 t) F.entry_int_rmul (F.args_int_rmul_2 _ _) (int_rmul_tuple 1 t l its.toArray n dd sl)
      ⟨ho, rfl, ⟨_, ho, rfl⟩, call_meets F.slot_tuple_mul ⟨_, ho, rfl⟩ F.entry_tuple_mul (F.args_tuple_mul_2 _ _) (tup_mul_one l its.toArray n dd sl t) ⟨ho, .ref l, H, I, rfl, q⟩⟩)
theorem op_rep0 : OpR X (binaryOp .Mult) (rRep0 X.K) := by
  intro pins s σ H x y v u Q I rx ry hq
  obtain ⟨l, xs, rfl, rfl, hT, hne, q⟩ := hq
  cases rx
  obtain ⟨t, rfl⟩ := ry
  obtain ⟨its, r, ⟨⟨cls, dd, data, sl⟩, ho, hc, n, hd⟩, hs⟩ := I.tuple hT
  dsimp only at hc hd
  subst hc hd
  have hi : its.toArray.isEmpty = false := by
    have hl := r.length
    cases its with
    | nil => exact absurd (List.eq_nil_of_length_eq_zero hl) hne
    | cons a b => rfl
  refine wpAny_binaryOp_repeat_ref (T := "tuple") (U := "int") (by decide) ⟨_, ho, rfl⟩ (fun s' => typeIs_int s' 0 t) noFill_tuple_mul F.fills_int_mul F.slot_int_rmul repeat_tuple F.slot_int_index.lookup
    (call_meets F.slot_int_rmul (typeIs_int s 0 t) F.entry_int_rmul (F.args_int_rmul_2 _ _) (int_rmul_tuple 0 t l its.toArray n dd sl)
      ⟨ho, rfl, ⟨_, ho, rfl⟩, call_meets F.slot_tuple_mul ⟨_, ho, rfl⟩ F.entry_tuple_mul (F.args_tuple_mul_2 _ _) (tup_mul_zero l its.toArray n dd sl t hi) ⟨ho, ?_⟩⟩)
  refine ⟨.ref s.heap.objs.size, _, I.laid (t' := s.toks) (o := .tup []) (fun b ob e => Heap.get?_push_of_some _ e) (Nat.le_refl _) ?_, rfl, q _ (I.hok.fresh (Nat.le_refl _))⟩
  exact ⟨by show (0 : Nat) ≤ sizeLine; exact Nat.zero_le _, [], .nil, IsTup.new _ _⟩
/-- max(t, default=0), t a tuple of ints -/
def rMaxT (K : PySem.W.Frag) : List V → List V → Hp → VK → Prop := fun xs zs H Q => ∃ (l : Addr) (ns : List Int), xs = [.ref l] ∧ zs = [.int 0] ∧ SqT K H l (ns.map V.int) ∧ Q (.int (match ns with | [] => 0 | y :: ys => PySem.W.maxOf y ys)) H
theorem holdAll_ints {h : Heap} : ∀ {vs : List Value} {ns : List Int}, Vals (ns.map V.int) vs → ∃ as, ReadsAll h vs (ns.map PyData.int) as
  | _, [], .nil => ⟨_, .nil⟩
  | _, n :: ns, .cons r rr => by
    obtain ⟨as, q⟩ := holdAll_ints (h := h) rr
    obtain ⟨t, rfl⟩ := r
    exact ⟨_, .cons (.int n t) q⟩
theorem cr_maxT (hc : X.calm = true) (hu : X.A.units + 64 < cLine) : CallRK X (.builtin "max") [("default" : Str)] (rMaxT X.K) := by
  intro pins s σ H xs zs us ws Q I rx rz hq
  obtain ⟨l, ns, rfl, rfl, hT, q⟩ := hq
  cases rx with
  | cons r rr =>
    cases rr
    cases r
    cases rz with
    | cons rz1 rzz =>
      cases rzz
      obtain ⟨t0, rfl⟩ := rz1
      obtain ⟨its, rv, pt, _⟩ := I.tuple hT
      obtain ⟨as, hr⟩ := holdAll_ints (h := s.heap) rv
      refine PySem.W.max_tuple_datum_default (α := Int) (vs := its.toArray) (xs := ns) (I.ok.hd hc) pt ⟨as, show ReadsAll s.heap its.toArray.toList (ns.map PyData.int) as by simpa using hr⟩ (by show X.A.units + 1 + 0 < cLine; omega) (fun e h' tk hk => ?_) fun y ys i v h' tk e hi hv hk => ?_
      · subst e
        exact ⟨.int 0, H, I.kept (t' := tk) hk, ⟨_, rfl⟩, q⟩
      · subst e
        obtain ⟨bs, hb⟩ := hv
        cases hb
        exact ⟨.int _, H, I.kept (t' := tk) hk, ⟨_, rfl⟩, q⟩
end
end L2
namespace L2
theorem Room.units1 {k : Nat} {A : PySem.Around} (r : Room k A) : A.units + 65 < PySem.cLine := by have := r.un; omega
end L2
namespace Bk
open PySem PySem.Spec PyProof.Rows L2
section
variable {X : Cx} {e a b c : Expr} {p p2 pos tpos : Pos} {m ma mb mc : MV}
def mulT (x y : Vk) : Option Vk := match x, y with
  | .im (.tuple [d]), .im (.int (.ofNat n)) => grd (Nat.ble n 1000) (some (.im (.tuple (List.replicate n d))))
  | _, _ => none
theorem em_mulT (ha : EM X a ma) (hb : EM X b mb) : EM X (.BinOp a .Mult b pos) (m2 mulT ma mb) := fun G k hq => by
  obtain ⟨x, hx, h1⟩ := bnd_some hq
  obtain ⟨y, hy, h2⟩ := bnd_some h1
  unfold mulT at h2
  split at h2
  · rename_i d n
    obtain ⟨h3, h4⟩ := grd_some h2
    have hle := Nat.le_of_ble_eq_true h3
    cases h4
    have hA := ha G _ hx
    have hB := hb G _ hy
    intro P σ H Q s q
    match n, hle with
    | 0, _ =>
      exact to_wE (pe_op op_rep0 pe_w pe_w) (hA P σ H _ s fun v H1 e1 o1 => hB P σ H1 _ (s.later e1) fun u H2 e2 o2 => by
        obtain ⟨r, xs, rfl, h1, h2⟩ := (Dp.same e2 _ _ o1.2).tup_inv
        have hl := DpAll.length h2
        refine ⟨r, xs, rfl, o2.2.int_inv, h1, fun z => (by rw [z] at hl; cases hl), fun p hp => q _ _ ((e1.trans e2).trans (same_upd hp)) ⟨imm_tuple immAll_nil, .tup (SqT.of upd_same) .nil⟩⟩)
    | 1, _ =>
      exact to_wE (pe_op op_rep1 pe_w pe_w) (hA P σ H _ s fun v H1 e1 o1 => hB P σ H1 _ (s.later e1) fun u H2 e2 o2 => by
        obtain ⟨r, xs, rfl, h1, h2⟩ := (Dp.same e2 _ _ o1.2).tup_inv
        exact ⟨r, xs, rfl, o2.2.int_inv, h1, q _ H2 (e1.trans e2) ⟨o1.1, .tup h1 h2⟩⟩)
    | n + 2, hle =>
      exact to_wE (pe_op op_repT pe_w pe_w) (hA P σ H _ s fun v H1 e1 o1 => hB P σ H1 _ (s.later e1) fun u H2 e2 o2 => by
        obtain ⟨r, xs, rfl, h1, h2⟩ := (Dp.same e2 _ _ o1.2).tup_inv
        have hl := DpAll.length h2
        have hl' : xs.length = 1 := hl
        have en : (Int.ofNat (n + 2)).toNat = n + 2 := rfl
        refine ⟨r, Int.ofNat (n + 2), xs, rfl, o2.2.int_inv, h1, fun z => (by rw [z] at hl; cases hl), by show (2 : Int) ≤ ((n + 2 : Nat) : Int); omega, by show ((n + 2 : Nat) : Int) ≤ 1000; omega, by omega, fun p hp => q _ _ ((e1.trans e2).trans (same_upd hp)) ⟨?_, .tup (SqT.of upd_same) ?_⟩⟩
        · rw [← flat_one d (n + 2)]
          exact imm_tuple (immAll_rep (imm_of_tuple o1.1) _)
        · rw [en, ← flat_one d (n + 2)]
          exact DpAll.same (same_upd hp) _ _ (DpAll.rep h2 _))
  · cases h2
def maxL : List Int → Int
  | [] => 0
  | y :: ys => PySem.W.maxOf y ys
def maxV : Vk → Option Vk
  | .im (.tuple ds) => bnd (nums ds) fun is => some (.im (.int (maxL is)))
  | _ => none
theorem em_max {kpos : Pos} {j : Nat} {kp : Pos} (hu : X.A.units + 64 < cLine) (h : EM X a m) (hm : X.mg "max" = none) (hc : X.calm = true := by rfl) (hg : Gl X "max" := by rfl)
    (hs : starEach (a :: []) X.env = (false, eval a X.env) :: starEach [] X.env := by rfl)
    (he : backTo pos (starEach (a :: []) X.env) = (false, eval a X.env) :: backTo pos (starEach [] X.env) := by rfl) (hpl : (backTo pos (starEach (a :: []) X.env)).any (·.1) = false := by rfl)
    (hall : (backToKw pos (keywordEach [⟨some "default", .Constant (.int 0) j kp, kpos⟩] X.env)).all (·.1.isSome) = true := by rfl) (hnone : (backToKw pos (keywordEach [⟨some "default", .Constant (.int 0) j kp, kpos⟩] X.env)).any (·.1.isNone) = false := by rfl) (hks : (backToKw pos (keywordEach [⟨some "default", .Constant (.int 0) j kp, kpos⟩] X.env)).filterMap (·.1) = [("default" : Str)] := by rfl) :
    EM X (.Call (.Name "max" p) [a] [⟨some "default", .Constant (.int 0) j kp, kpos⟩] pos) (m1 maxV m) := fun G k hq P σ H Q s q => by
  obtain ⟨x, hx, h1⟩ := bnd_some hq
  unfold maxV at h1
  split at h1
  · obtain ⟨is, h2, h3⟩ := bnd_some h1
    cases h3
    have eds := nums_some h2
    subst eds
    refine to_wE (pe_callBK (cr_maxT hc hu) hg hm (by decide +kernel) (pa_cons pe_w pa_nil hs) (pk_cons pe_int pk_nil) (by decide) (by decide) he hpl hall hnone hks) (h G _ hx P σ H _ s fun v H1 e1 o => ?_)
    obtain ⟨r, xs, rfl, k1, k2⟩ := o.2.tup_inv
    rw [DpAll.ints k2] at k1
    refine ⟨r, is, rfl, rfl, k1, q _ H1 e1 ⟨imm_int _, ?_⟩⟩
    unfold maxL
    cases is with
    | nil => exact .int _
    | cons y ys => exact .int _
  · cases h1
/-- a, b, c = x, [], [] -/
def sPar3 (i j l : Nat) (ma mb mc : MV) : MS := fun G => bnd (ma G) fun x => bnd (mb G) fun y => bnd (mc G) fun z => grd (Nat.ble (i + 1) G.length && (Nat.ble (j + 1) G.length && Nat.ble (l + 1) G.length)) (match x, y, z with
  | .nl ds, .im d, .im d' => some (.go (((G.set i (.ml ds)).set j (.im d)).set l (.im d')))
  | .nl ds, .nl ds', .nl ds'' => some (.go (((G.set i (.ml ds)).set j (.ml ds')).set l (.ml ds'')))
  | _, _, _ => none)
theorem sm_par3 (i j l : Nat) {x y z : Str} {px py pz pt pos2 : Pos} {kt k2 : Nat} {pt2 : Pos} (ha : EM X a ma) (hb : EM X b mb) (hcc : EM X c mc) (hN : X.N.Nodup) (hij : i ≠ j := by decide) (hil : i ≠ l := by decide) (hjl : j ≠ l := by decide) (hc : X.calm = true := by rfl) (hi : X.N[i]? = some x := by rfl) (hj : X.N[j]? = some y := by rfl) (hl : X.N[l]? = some z := by rfl)
    (hx : X.env.scope.names.lookup x = some .local := by rfl) (hy : X.env.scope.names.lookup y = some .local := by rfl) (hz : X.env.scope.names.lookup z = some .local := by rfl)
    (hw : swappedStores [.Tuple [.Name x px, .Name y py, .Name z pz] kt pt] (.Tuple [a, b, c] k2 pt2) X.env = pure (some [x, y, z]) := by rfl)
    (hs : swapsWithSole [.Tuple [.Name x px, .Name y py, .Name z pz] kt pt] (.Tuple [a, b, c] k2 pt2) pos2.line X.env = pure false := by rfl)
    (hs1 : starEach [a, b, c] X.env = (false, eval a X.env) :: starEach [b, c] X.env := by rfl) (hs2 : starEach [b, c] X.env = (false, eval b X.env) :: starEach [c] X.env := by rfl) (hs3 : starEach [c] X.env = (false, eval c X.env) :: starEach [] X.env := by rfl) :
    SM X (.Assign [.Tuple [.Name x px, .Name y py, .Name z pz] kt pt] (.Tuple [a, b, c] k2 pt2) pos2) (sPar3 i j l ma mb mc) := fun G r h N R hn hr => by
  obtain ⟨u, q1, h1⟩ := bnd_some h
  obtain ⟨v, q2, h2⟩ := bnd_some h1
  obtain ⟨w, q3, h3⟩ := bnd_some h2
  obtain ⟨g0, h4⟩ := grd_some h3
  rw [Bool.and_eq_true, Bool.and_eq_true] at g0
  obtain ⟨g1, g2, g3⟩ := g0
  have l1 := Nat.le_of_ble_eq_true g1
  have l2 := Nat.le_of_ble_eq_true g2
  have l3 := Nat.le_of_ble_eq_true g3
  split at h4
  · cases h4
    intro P σ H D s g
    refine to_wS (ps_par3 hc hN hi hj hl hij hil hjl hx hy hz (pa_cons pe_w (pa_cons pe_w (pa_cons pe_w pa_nil hs3) hs2) hs1) hw hs) (ha G _ q1 P σ H _ s fun v1 H1 e1 o1 => hb G _ q2 P σ H1 _ (s.later e1) fun v2 H2 e2 o2 => hcc G _ q3 P σ H2 _ (s.later (e1.trans e2)) fun v3 H3 e3 o3 => ⟨v1, v2, v3, rfl, ?_⟩)
    have a1 := s.putNl (i := i) ((e1.trans e2).trans e3) (by omega) ((o1.later e2).later e3)
    have a2 := a1.putIm (i := j) (by rw [List.length_set]; omega) ⟨o2.1, Dp.same e3 _ _ o2.2⟩
    have a3 := a2.putIm (i := l) (by rw [List.length_set, List.length_set]; omega) o3
    exact g.1 P _ _ H3 (Same.refl P) (hn _ rfl) a3
  · cases h4
    intro P σ H D s g
    refine to_wS (ps_par3 hc hN hi hj hl hij hil hjl hx hy hz (pa_cons pe_w (pa_cons pe_w (pa_cons pe_w pa_nil hs3) hs2) hs1) hw hs) (ha G _ q1 P σ H _ s fun v1 H1 e1 o1 => hb G _ q2 P σ H1 _ (s.later e1) fun v2 H2 e2 o2 => hcc G _ q3 P σ H2 _ (s.later (e1.trans e2)) fun v3 H3 e3 o3 => ⟨v1, v2, v3, rfl, ?_⟩)
    have a1 := s.putNl (i := i) e1 (by omega) o1
    have a2 := a1.putNl (i := j) e2 (by rw [List.length_set]; omega) o2
    have a3 := a2.putNl (i := l) e3 (by rw [List.length_set, List.length_set]; omega) o3
    exact g.1 P _ _ H3 (Same.refl P) (hn _ rfl) a3
  · cases h4
end
end Bk

set_option Elab.async false
set_option linter.all false
set_option maxRecDepth 100000
namespace Bk
open PySem PySem.Spec PyProof.Rows L2
section
variable {P : Program} {w : World} {K : PySem.W.Frag} {mg : Str → Option Value} {base : Heap}
theorem sc_is_from : FnScope ["value", "low", "high"] ["value", "low", "high"] (defScope s_is_from) := ⟨rfl, rfl, rfl, by decide +kernel, rfl, by decide +kernel, by decide +kernel⟩
def m_is_from : List Vk → Option Vk := defM 3 3 (sRet (mAnd (m1 (isiV (false, true, true, false, false)) (mVar 0)) (mAnd (ofT (notT (t1 vT (m1 (isiV (false, true, false, false, false)) (mVar 0))))) (m3 betV (mVar 1) (mVar 0) (mVar 2)))))
theorem ok_is_from (T : TxA K mg) : Dok P w K mg base "is_from" 1 ["value", "low", "high"] (MSp K m_is_from) := by
  refine okM T.t_is_from sc_is_from (fun _ _ _ _ _ _ us hl => match us, hl with | [_, _, _], _ => rfl) rfl rfl ?_
  intro f cdv A outer s H E hr
  exact sms_one (sm_ret (em_and (em_isInt (em_var 0) T.n_isinstance T.n_int) (em_and (em_not (em_isBool (em_var 0) T.n_isinstance T.n_bool)) (em_one (em_between (em_var 1) (em_var 0) (em_var 2))))))
theorem sc_is_holder : FnScope ["value", "item"] ["value"] (defScope s_is_holder) := ⟨rfl, rfl, rfl, by decide +kernel, rfl, by decide +kernel, by decide +kernel⟩
def m_is_holder : List Vk → Option Vk := defM 1 2 (sCons (sIf (tOr (notT (t1 vT (m1 (isiV (false, false, false, false, true)) (mVar 0)))) (t2 gtT (m1 lenV (mVar 0)) (mK (.im (.int 60))))) (sRet (mK (.im (.bool false)))) (sNil)) (sRet (ofT (t2 eqT (m1 lenV (mLc [1] (.one 1) (iVar 0) (notT (t1 vT (mCall m_is_from (aCons (mVar 1) (aCons (mK (.im (.int 0))) (aCons (mK (.im (.int 12))) (aNil))))))) (mK (.im (.int 1))))) (mK (.im (.int 0)))))))
theorem ok_is_holder (T : TxA K mg) : Dok P w K mg base "is_holder" 2 ["value"] (MSp K m_is_holder) := by
  refine okM T.t_is_holder sc_is_holder (fun _ _ _ _ _ _ us hl => match us, hl with | [_], _ => rfl) rfl rfl ?_
  intro f cdv A outer s H E hr
  exact sms_cons (sm_if (tm_or2 (tm_not (tm_val (em_isTup (em_var 0) T.n_isinstance T.n_tuple))) (tm_gt (em_len (em_var 0) T.n_len) (em_glob T.c_MOST_SHAPES))) (sms_one (sm_ret (em_bool))) (sms_nil)) (sms_one (sm_ret (em_eq hr.units (em_len (em_lc (own := [("item", 1)]) (T := (.one 1)) (im_var 0) sc_is_holder.nd (fun _ _ _ _ _ => gk_one 1 sc_is_holder.nd rfl) (bts_one (fun _ _ _ _ _ => tm_not (tm_val (em_call (ok_is_from T) hr (am_cons (em_var 1) (am_cons (em_int) (am_cons (em_glob T.c_MOST_PLACES) (am_nil)))))))) (fun _ _ _ _ _ => em_int) (by kernel_rfl)) T.n_len) (em_int))))
theorem sc_need_holder : FnScope ["value"] ["value"] (defScope s_need_holder) := ⟨rfl, rfl, rfl, by decide +kernel, rfl, by decide +kernel, by decide +kernel⟩
def m_need_holder : List Vk → Option Vk := defM 1 1 (sCons (sIf (notT (t1 vT (mCall m_is_holder (aCons (mVar 0) (aNil))))) (sBot) (sNil)) (sRetV 0))
theorem ok_need_holder (T : TxA K mg) : Dok P w K mg base "need_holder" 3 ["value"] (MSp K m_need_holder) := by
  refine okM T.t_need_holder sc_need_holder (fun _ _ _ _ _ _ us hl => match us, hl with | [_], _ => rfl) rfl rfl ?_
  intro f cdv A outer s H E hr
  exact sms_cons (sm_if (tm_not (tm_val (em_call (ok_is_holder T) hr (am_cons (em_var 0) (am_nil))))) (sms_one (sm_bot)) (sms_nil)) (sms_one (sm_retV 0))
theorem sc_power_so : FnScope ["number", "times", "found", "step"] ["number", "times"] (defScope s_power_so) := ⟨rfl, rfl, rfl, by decide +kernel, rfl, by decide +kernel, by decide +kernel⟩
def m_power_so : List Vk → Option Vk := defM 2 4 (sCons (sSet 2 (mK (.im (.int 1)))) (sCons (sFor (.one 3) (iRange (mVar 1)) (sSet 2 (m2 mulV (mVar 2) (mVar 0)))) (sRetV 2)))
theorem ok_power_so (T : TxA K mg) : Dok P w K mg base "power_so" 1 ["number", "times"] (MSp K m_power_so) := by
  refine okM T.t_power_so sc_power_so (fun _ _ _ _ _ _ us hl => match us, hl with | [_, _], _ => rfl) rfl rfl ?_
  intro f cdv A outer s H E hr
  exact sms_cons (sm_set 2 (em_int) sc_power_so.nd) (sms_cons (sm_for (T := (.one 3)) (im_range (em_var 1) T.n_range) (gk_one 3 sc_power_so.nd rfl) (sms_one (sm_set 2 (em_mul (em_var 2) (em_var 0)) sc_power_so.nd))) (sms_one (sm_retV 2)))
theorem sc_fillings_so : FnScope ["holder", "many", "places"] ["holder", "many"] (defScope s_fillings_so) := ⟨rfl, rfl, rfl, by decide +kernel, rfl, by decide +kernel, by decide +kernel⟩
def m_fillings_so : List Vk → Option Vk := defM 2 3 (sRet (m1 sumV (mLc [2] (.one 2) (iVar 0) (tYesM) (mCall m_power_so (aCons (mVar 1) (aCons (mVar 2) (aNil)))))))
theorem ok_fillings_so (T : TxA K mg) : Dok P w K mg base "fillings_so" 2 ["holder", "many"] (MSp K m_fillings_so) := by
  refine okM T.t_fillings_so sc_fillings_so (fun _ _ _ _ _ _ us hl => match us, hl with | [_, _], _ => rfl) rfl rfl ?_
  intro f cdv A outer s H E hr
  exact sms_one (sm_ret (em_sum (em_lc (own := [("places", 2)]) (T := (.one 2)) (im_var 0) sc_fillings_so.nd (fun _ _ _ _ _ => gk_one 2 sc_fillings_so.nd rfl) (bts_nil) (fun _ _ _ _ _ => em_call (ok_power_so T) hr (am_cons (em_var 1) (am_cons (em_var 2) (am_nil)))) (by kernel_rfl)) T.n_sum))
theorem sc_rows_of : FnScope ["things", "size", "found", "step", "longer", "row", "thing"] ["things", "size"] (defScope s_rows_of) := ⟨rfl, rfl, rfl, by decide +kernel, rfl, by decide +kernel, by decide +kernel⟩
def m_rows_of : List Vk → Option Vk := defM 2 7 (sCons (sSet 2 (mLst (aCons (mTup (aNil)) (aNil)))) (sCons (sFor (.one 3) (iRange (mVar 1)) (sCons (sSet 4 (mLst (aNil))) (sCons (sFor (.one 5) (iVar 2) (sExt 4 (mLc [6] (.one 6) (iVar 0) (tYesM) (m2 addV (mVar 5) (mTup (aCons (mVar 6) (aNil))))))) (sSet 2 (m1 lstV (mVar 4)))))) (sRetV 2)))
theorem ok_rows_of (T : TxA K mg) : Dok P w K mg base "rows_of" 1 ["things", "size"] (MSp K m_rows_of) := by
  refine okM T.t_rows_of sc_rows_of (fun _ _ _ _ _ _ us hl => match us, hl with | [_, _], _ => rfl) rfl rfl ?_
  intro f cdv A outer s H E hr
  exact sms_cons (sm_set 2 (em_lst (am_cons (em_tup (am_nil)) (am_nil))) sc_rows_of.nd) (sms_cons (sm_for (T := (.one 3)) (im_range (em_var 1) T.n_range) (gk_one 3 sc_rows_of.nd rfl) (sms_cons (sm_set 4 (em_lst (am_nil)) sc_rows_of.nd) (sms_cons (sm_for (T := (.one 5)) (im_var 2) (gk_one 5 sc_rows_of.nd rfl) (sms_one (sm_ext 4 (em_lc (own := [("thing", 6)]) (T := (.one 6)) (im_var 0) sc_rows_of.nd (fun _ _ _ _ _ => gk_one 6 sc_rows_of.nd rfl) (bts_nil) (fun _ _ _ _ _ => em_add (em_var 5) (em_tup (am_cons (em_var 6) (am_nil)))) (by kernel_rfl))))) (sms_one (sm_set 2 (em_list (em_var 4) T.n_list) sc_rows_of.nd))))) (sms_one (sm_retV 2)))
theorem sc_own_so : FnScope ["holder", "shape"] ["holder", "shape"] (defScope s_own_so) := ⟨rfl, rfl, rfl, by decide +kernel, rfl, by decide +kernel, by decide +kernel⟩
def m_own_so : List Vk → Option Vk := defM 2 2 (sRet (mTup (aCons (mVar 1) (aCons (m1 tupRg (m2 ixV (mVar 0) (mVar 1))) (aNil)))))
theorem ok_own_so (T : TxA K mg) : Dok P w K mg base "own_so" 1 ["holder", "shape"] (MSp K m_own_so) := by
  refine okM T.t_own_so sc_own_so (fun _ _ _ _ _ _ us hl => match us, hl with | [_, _], _ => rfl) rfl rfl ?_
  intro f cdv A outer s H E hr
  exact sms_one (sm_ret (em_tup (am_cons (em_var 1) (am_cons (em_tupRg (em_ix (em_var 0) (em_var 1)) T.n_tuple T.n_range) (am_nil)))))
theorem sc_is_row : FnScope ["places", "goal", "value", "place"] ["places", "goal", "value"] (defScope s_is_row) := ⟨rfl, rfl, rfl, by decide +kernel, rfl, by decide +kernel, by decide +kernel⟩
def m_is_row : List Vk → Option Vk := defM 3 4 (sCons (sIf (tOr (notT (t1 vT (m1 (isiV (false, false, false, false, true)) (mVar 2)))) (tOr (notT (t2 eqT (m1 lenV (mVar 2)) (mK (.im (.int 2))))) (notT (t1 vT (m1 (isiV (false, false, false, false, true)) (m2 ixV (mVar 2) (mK (.im (.int 1))))))))) (sRet (mK (.im (.bool false)))) (sNil)) (sCons (sIf (tOr (notT (t1 vT (mCall m_is_from (aCons (m2 ixV (mVar 2) (mK (.im (.int 0)))) (aCons (mK (.im (.int 0))) (aCons (m2 subV (m1 lenV (mVar 1)) (mK (.im (.int 1)))) (aNil))))))) (notT (t2 eqT (m1 lenV (m2 ixV (mVar 2) (mK (.im (.int 1))))) (m2 ixV (mVar 1) (m2 ixV (mVar 2) (mK (.im (.int 0)))))))) (sRet (mK (.im (.bool false)))) (sNil)) (sRet (ofT (t2 eqT (m1 lenV (mLc [3] (.one 3) (iVal (m2 ixV (mVar 2) (mK (.im (.int 1))))) (notT (t1 vT (mCall m_is_from (aCons (mVar 3) (aCons (mK (.im (.int 0))) (aCons (m2 subV (mVar 0) (mK (.im (.int 1)))) (aNil))))))) (mK (.im (.int 1))))) (mK (.im (.int 0))))))))
theorem ok_is_row (T : TxA K mg) : Dok P w K mg base "is_row" 2 ["places", "goal", "value"] (MSp K m_is_row) := by
  refine okM T.t_is_row sc_is_row (fun _ _ _ _ _ _ us hl => match us, hl with | [_, _, _], _ => rfl) rfl rfl ?_
  intro f cdv A outer s H E hr
  exact sms_cons (sm_if (tm_or3 (tm_not (tm_val (em_isTup (em_var 2) T.n_isinstance T.n_tuple))) (tm_ne hr.units (em_len (em_var 2) T.n_len) (em_int)) (tm_not (tm_val (em_isTup (em_ix (em_var 2) (em_int)) T.n_isinstance T.n_tuple)))) (sms_one (sm_ret (em_bool))) (sms_nil)) (sms_cons (sm_if (tm_or2 (tm_not (tm_val (em_call (ok_is_from T) hr (am_cons (em_ix (em_var 2) (em_int)) (am_cons (em_int) (am_cons (em_sub (em_len (em_var 1) T.n_len) (em_int)) (am_nil))))))) (tm_ne hr.units (em_len (em_ix (em_var 2) (em_int)) T.n_len) (em_ix (em_var 1) (em_ix (em_var 2) (em_int))))) (sms_one (sm_ret (em_bool))) (sms_nil)) (sms_one (sm_ret (em_eq hr.units (em_len (em_lc (own := [("place", 3)]) (T := (.one 3)) (im_val (em_ix (em_var 2) (em_int))) sc_is_row.nd (fun _ _ _ _ _ => gk_one 3 sc_is_row.nd rfl) (bts_one (fun _ _ _ _ _ => tm_not (tm_val (em_call (ok_is_from T) hr (am_cons (em_var 3) (am_cons (em_int) (am_cons (em_sub (em_var 0) (em_int)) (am_nil)))))))) (fun _ _ _ _ _ => em_int) (by kernel_rfl)) T.n_len) (em_int)))))
theorem sc_done_so : FnScope ["program", "filling", "goal", "places", "place"] ["program", "filling"] (defScope s_done_so) := ⟨rfl, rfl, rfl, by decide +kernel, rfl, by decide +kernel, by decide +kernel⟩
def m_done_so : List Vk → Option Vk := defM 2 5 (sCons (sUnp 2 3 (m2 ixV (mVar 0) (m2 ixV (mVar 1) (mK (.im (.int 0)))))) (sRet (mTup (aCons (mVar 2) (aCons (m1 tupV (mLc [4] (.one 4) (iVar 3) (tYesM) (m2 ixV (m2 ixV (mVar 1) (mK (.im (.int 1)))) (mVar 4)))) (aNil))))))
theorem ok_done_so (T : TxA K mg) : Dok P w K mg base "done_so" 1 ["program", "filling"] (MSp K m_done_so) := by
  refine okM T.t_done_so sc_done_so (fun _ _ _ _ _ _ us hl => match us, hl with | [_, _], _ => rfl) rfl rfl ?_
  intro f cdv A outer s H E hr
  exact sms_cons (sm_unp 2 3 (em_ix (em_var 0) (em_ix (em_var 1) (em_int))) sc_done_so.nd) (sms_one (sm_ret (em_tup (am_cons (em_var 2) (am_cons (em_tuple (em_lc (own := [("place", 4)]) (T := (.one 4)) (im_var 3) sc_done_so.nd (fun _ _ _ _ _ => gk_one 4 sc_done_so.nd rfl) (bts_nil) (fun _ _ _ _ _ => em_ix (em_ix (em_var 1) (em_int)) (em_var 4)) (by kernel_rfl)) T.n_tuple) (am_nil))))))
theorem sc_programs_so : FnScope ["holder", "goal", "found", "places"] ["holder", "goal"] (defScope s_programs_so) := ⟨rfl, rfl, rfl, by decide +kernel, rfl, by decide +kernel, by decide +kernel⟩
def m_programs_so : List Vk → Option Vk := defM 2 4 (sCons (sSet 2 (mK (.im (.int 1)))) (sCons (sFor (.one 3) (iVar 0) (sSet 2 (m2 mulV (mVar 2) (mCall m_fillings_so (aCons (mVar 1) (aCons (mVar 3) (aNil))))))) (sRetV 2)))
theorem ok_programs_so (T : TxA K mg) : Dok P w K mg base "programs_so" 3 ["holder", "goal"] (MSp K m_programs_so) := by
  refine okM T.t_programs_so sc_programs_so (fun _ _ _ _ _ _ us hl => match us, hl with | [_, _], _ => rfl) rfl rfl ?_
  intro f cdv A outer s H E hr
  exact sms_cons (sm_set 2 (em_int) sc_programs_so.nd) (sms_cons (sm_for (T := (.one 3)) (im_var 0) (gk_one 3 sc_programs_so.nd rfl) (sms_one (sm_set 2 (em_mul (em_var 2) (em_call (ok_fillings_so T) hr (am_cons (em_var 1) (am_cons (em_var 3) (am_nil))))) sc_programs_so.nd))) (sms_one (sm_retV 2)))
theorem sc_rows_to : FnScope ["places", "goal", "found", "shape", "size", "row"] ["places", "goal"] (defScope s_rows_to) := ⟨rfl, rfl, rfl, by decide +kernel, rfl, by decide +kernel, by decide +kernel⟩
def m_rows_to : List Vk → Option Vk := defM 2 6 (sCons (sSet 2 (mLst (aNil))) (sCons (sFor (.two 3 4) (iEnum (mVar 1)) (sExt 2 (mLc [5] (.one 5) (iVal (mCall m_rows_of (aCons (m1 lstRg (mVar 0)) (aCons (mVar 4) (aNil))))) (tYesM) (mTup (aCons (mVar 3) (aCons (mVar 5) (aNil))))))) (sRetV 2)))
theorem ok_rows_to (T : TxA K mg) : Dok P w K mg base "rows_to" 2 ["places", "goal"] (MSp K m_rows_to) := by
  refine okM T.t_rows_to sc_rows_to (fun _ _ _ _ _ _ us hl => match us, hl with | [_, _], _ => rfl) rfl rfl ?_
  intro f cdv A outer s H E hr
  exact sms_cons (sm_set 2 (em_lst (am_nil)) sc_rows_to.nd) (sms_cons (sm_for (T := (.two 3 4)) (im_enum (em_var 1) T.n_enumerate) (gk_two 3 4 sc_rows_to.nd) (sms_one (sm_ext 2 (em_lc (own := [("row", 5)]) (T := (.one 5)) (im_val (em_call (ok_rows_of T) hr (am_cons (em_lstRg (em_var 0) T.n_list T.n_range) (am_cons (em_var 4) (am_nil))))) sc_rows_to.nd (fun _ _ _ _ _ => gk_one 5 sc_rows_to.nd rfl) (bts_nil) (fun _ _ _ _ _ => em_tup (am_cons (em_var 3) (am_cons (em_var 5) (am_nil)))) (by kernel_rfl))))) (sms_one (sm_retV 2)))
theorem sc_tables_so : FnScope ["holder", "goal", "found", "places", "longer", "rows", "table", "row"] ["holder", "goal"] (defScope s_tables_so) := ⟨rfl, rfl, rfl, by decide +kernel, rfl, by decide +kernel, by decide +kernel⟩
def m_tables_so : List Vk → Option Vk := defM 2 8 (sCons (sIf (notT (t2 eqT (mLc [3] (.one 3) (iVar 0) (t2 eqT (mCall m_fillings_so (aCons (mVar 1) (aCons (mVar 3) (aNil)))) (mK (.im (.int 0)))) (mK (.im (.int 1)))) (mLst (aNil)))) (sRet (mLst (aNil))) (sNil)) (sCons (sSet 2 (mLst (aCons (mTup (aNil)) (aNil)))) (sCons (sFor (.one 3) (iVar 0) (sCons (sSet 4 (mLst (aNil))) (sCons (sSet 5 (mCall m_rows_to (aCons (mVar 3) (aCons (mVar 1) (aNil))))) (sCons (sFor (.one 6) (iVar 2) (sExt 4 (mLc [7] (.one 7) (iVar 5) (tYesM) (m2 addV (mVar 6) (mTup (aCons (mVar 7) (aNil))))))) (sSet 2 (m1 lstV (mVar 4))))))) (sRetV 2))))
theorem ok_tables_so (T : TxA K mg) : Dok P w K mg base "tables_so" 3 ["holder", "goal"] (MSp K m_tables_so) := by
  refine okM T.t_tables_so sc_tables_so (fun _ _ _ _ _ _ us hl => match us, hl with | [_, _], _ => rfl) rfl rfl ?_
  intro f cdv A outer s H E hr
  exact sms_cons (sm_if (tm_ne hr.units (em_lc (own := [("places", 3)]) (T := (.one 3)) (im_var 0) sc_tables_so.nd (fun _ _ _ _ _ => gk_one 3 sc_tables_so.nd rfl) (bts_one (fun _ _ _ _ _ => tm_eq hr.units (em_call (ok_fillings_so T) hr (am_cons (em_var 1) (am_cons (em_var 3) (am_nil)))) (em_int))) (fun _ _ _ _ _ => em_int) (by kernel_rfl)) (em_lst (am_nil))) (sms_one (sm_ret (em_lst (am_nil)))) (sms_nil)) (sms_cons (sm_set 2 (em_lst (am_cons (em_tup (am_nil)) (am_nil))) sc_tables_so.nd) (sms_cons (sm_for (T := (.one 3)) (im_var 0) (gk_one 3 sc_tables_so.nd rfl) (sms_cons (sm_set 4 (em_lst (am_nil)) sc_tables_so.nd) (sms_cons (sm_set 5 (em_call (ok_rows_to T) hr (am_cons (em_var 3) (am_cons (em_var 1) (am_nil)))) sc_tables_so.nd) (sms_cons (sm_for (T := (.one 6)) (im_var 2) (gk_one 6 sc_tables_so.nd rfl) (sms_one (sm_ext 4 (em_lc (own := [("row", 7)]) (T := (.one 7)) (im_var 5) sc_tables_so.nd (fun _ _ _ _ _ => gk_one 7 sc_tables_so.nd rfl) (bts_nil) (fun _ _ _ _ _ => em_add (em_var 6) (em_tup (am_cons (em_var 7) (am_nil)))) (by kernel_rfl))))) (sms_one (sm_set 2 (em_list (em_var 4) T.n_list) sc_tables_so.nd)))))) (sms_one (sm_retV 2))))
theorem sc_greatest : FnScope ["holder"] ["holder"] (defScope s_greatest) := ⟨rfl, rfl, rfl, by decide +kernel, rfl, by decide +kernel, by decide +kernel⟩
def m_greatest : List Vk → Option Vk := defM 1 1 (sRet (m1 maxV (mVar 0)))
theorem ok_greatest (T : TxA K mg) : Dok P w K mg base "greatest" 1 ["holder"] (MSp K m_greatest) := by
  refine okM T.t_greatest sc_greatest (fun _ _ _ _ _ _ us hl => match us, hl with | [_], _ => rfl) rfl rfl ?_
  intro f cdv A outer s H E hr
  exact sms_one (sm_ret (em_max hr.units (em_var 0) T.n_max))
theorem sc_into_count : FnScope ["one", "other", "places"] ["one", "other"] (defScope s_into_count) := ⟨rfl, rfl, rfl, by decide +kernel, rfl, by decide +kernel, by decide +kernel⟩
def m_into_count : List Vk → Option Vk := defM 2 3 (sRet (m1 sumV (mLc [2] (.one 2) (iVar 0) (tYesM) (mCall m_power_so (aCons (m1 lenV (mVar 1)) (aCons (mVar 2) (aNil)))))))
theorem ok_into_count (T : TxA K mg) : Dok P w K mg base "into_count" 2 ["one", "other"] (MSp K m_into_count) := by
  refine okM T.t_into_count sc_into_count (fun _ _ _ _ _ _ us hl => match us, hl with | [_, _], _ => rfl) rfl rfl ?_
  intro f cdv A outer s H E hr
  exact sms_one (sm_ret (em_sum (em_lc (own := [("places", 2)]) (T := (.one 2)) (im_var 0) sc_into_count.nd (fun _ _ _ _ _ => gk_one 2 sc_into_count.nd rfl) (bts_nil) (fun _ _ _ _ _ => em_call (ok_power_so T) hr (am_cons (em_len (em_var 1) T.n_len) (am_cons (em_var 2) (am_nil)))) (by kernel_rfl)) T.n_sum))
theorem sc_into_so : FnScope ["one", "other", "shape", "places", "row"] ["one", "other"] (defScope s_into_so) := ⟨rfl, rfl, rfl, by decide +kernel, rfl, by decide +kernel, by decide +kernel⟩
def m_into_so : List Vk → Option Vk := defM 2 5 (sRet (mLc2 [2, 3, 4] [4] (.two 2 3) (.one 4) (iEnum (mVar 0)) (mCall m_rows_of (aCons (m1 lstRg (m1 lenV (mVar 1))) (aCons (mVar 3) (aNil)))) (mTup (aCons (mVar 2) (aCons (mVar 4) (aNil))))))
theorem ok_into_so (T : TxA K mg) : Dok P w K mg base "into_so" 2 ["one", "other"] (MSp K m_into_so) := by
  refine okM T.t_into_so sc_into_so (fun _ _ _ _ _ _ us hl => match us, hl with | [_, _], _ => rfl) rfl rfl ?_
  intro f cdv A outer s H E hr
  exact sms_one (sm_ret (em_lc2 (own := [("shape", 2), ("places", 3), ("row", 4)]) (T := (.two 2 3)) (T1 := (.one 4)) (vs1 := [4]) (im_enum (em_var 0) T.n_enumerate) sc_into_so.nd (fun _ _ _ _ _ => gk_two 2 3 sc_into_so.nd) (fun _ _ _ _ _ => gk_one 4 sc_into_so.nd rfl) (fun _ _ _ _ _ => em_call (ok_rows_of T) hr (am_cons (em_lstRg (em_len (em_var 1) T.n_len) T.n_list T.n_range) (am_cons (em_var 3) (am_nil)))) (fun _ _ _ _ _ => em_tup (am_cons (em_var 2) (am_cons (em_var 4) (am_nil)))) (by kernel_rfl) (by decide)))
theorem sc_into_sizes : FnScope ["one", "other", "shape", "row", "inner"] ["one", "other"] (defScope s_into_sizes) := ⟨rfl, rfl, rfl, by decide +kernel, rfl, by decide +kernel, by decide +kernel⟩
def m_into_sizes : List Vk → Option Vk := defM 2 5 (sRet (m1 tupV (mLc [2, 3] (.two 2 3) (iVal (mCall m_into_so (aCons (mVar 0) (aCons (mVar 1) (aNil))))) (tYesM) (m1 sumV (mLc [4] (.one 4) (iVar 3) (tYesM) (m2 ixV (mVar 1) (mVar 4)))))))
theorem ok_into_sizes (T : TxA K mg) : Dok P w K mg base "into_sizes" 3 ["one", "other"] (MSp K m_into_sizes) := by
  refine okM T.t_into_sizes sc_into_sizes (fun _ _ _ _ _ _ us hl => match us, hl with | [_, _], _ => rfl) rfl rfl ?_
  intro f cdv A outer s H E hr
  exact sms_one (sm_ret (em_tuple (em_lc (own := [("shape", 2), ("row", 3)]) (T := (.two 2 3)) (im_val (em_call (ok_into_so T) hr (am_cons (em_var 0) (am_cons (em_var 1) (am_nil))))) sc_into_sizes.nd (fun _ _ _ _ _ => gk_two 2 3 sc_into_sizes.nd) (bts_nil) (fun _ _ _ _ _ => em_sum (em_lc (own := [("inner", 4)]) (T := (.one 4)) (im_var 3) sc_into_sizes.nd (fun _ _ _ _ _ => gk_one 4 sc_into_sizes.nd rfl) (bts_nil) (fun _ _ _ _ _ => em_ix (em_var 1) (em_var 4)) (by kernel_rfl)) T.n_sum) (by kernel_rfl)) T.n_tuple))
theorem sc_number_so : FnScope ["one", "size", "shape", "row", "found", "inner", "places"] ["one", "size", "shape", "row"] (defScope s_number_so) := ⟨rfl, rfl, rfl, by decide +kernel, rfl, by decide +kernel, by decide +kernel⟩
def m_number_so : List Vk → Option Vk := defM 4 7 (sCons (sSet 4 (mK (.im (.int 0)))) (sCons (sFor (.one 5) (iVar 3) (sSet 4 (m2 addV (m2 mulV (mVar 4) (mVar 1)) (mVar 5)))) (sRet (m2 addV (mVar 4) (m1 sumV (mLc [6] (.one 6) (iVal (mSl (mVar 0) oNo (oSome (mVar 2)))) (tYesM) (mCall m_power_so (aCons (mVar 1) (aCons (mVar 6) (aNil))))))))))
theorem ok_number_so (T : TxA K mg) : Dok P w K mg base "number_so" 2 ["one", "size", "shape", "row"] (MSp K m_number_so) := by
  refine okM T.t_number_so sc_number_so (fun _ _ _ _ _ _ us hl => match us, hl with | [_, _, _, _], _ => rfl) rfl rfl ?_
  intro f cdv A outer s H E hr
  exact sms_cons (sm_set 4 (em_int) sc_number_so.nd) (sms_cons (sm_for (T := (.one 5)) (im_var 3) (gk_one 5 sc_number_so.nd rfl) (sms_one (sm_set 4 (em_add (em_mul (em_var 4) (em_var 1)) (em_var 5)) sc_number_so.nd))) (sms_one (sm_ret (em_add (em_var 4) (em_sum (em_lc (own := [("places", 6)]) (T := (.one 6)) (im_val (em_sl (em_var 0) om_none (om_some (em_var 2)))) sc_number_so.nd (fun _ _ _ _ _ => gk_one 6 sc_number_so.nd rfl) (bts_nil) (fun _ _ _ _ _ => em_call (ok_power_so T) hr (am_cons (em_var 1) (am_cons (em_var 6) (am_nil)))) (by kernel_rfl)) T.n_sum)))))
theorem sc_flat_so : FnScope ["holder", "flat", "shape", "fillings", "things", "filling", "row"] ["holder", "flat", "shape", "fillings"] (defScope s_flat_so) := ⟨rfl, rfl, rfl, by decide +kernel, rfl, by decide +kernel, by decide +kernel⟩
def m_flat_so : List Vk → Option Vk := defM 4 7 (sCons (sSet 4 (mTup (aNil))) (sCons (sFor (.one 5) (iVar 3) (sSet 4 (m2 addV (mVar 4) (m2 ixV (mVar 5) (mK (.im (.int 1))))))) (sCons (sSet 6 (m1 tupV (mLc [5] (.one 5) (iVar 3) (tYesM) (m2 ixV (mVar 5) (mK (.im (.int 0))))))) (sRet (mCall m_done_so (aCons (mVar 1) (aCons (mTup (aCons (mCall m_number_so (aCons (mVar 0) (aCons (m1 lenV (mVar 0)) (aCons (mVar 2) (aCons (mVar 6) (aNil)))))) (aCons (mVar 4) (aNil)))) (aNil))))))))
theorem ok_flat_so (T : TxA K mg) : Dok P w K mg base "flat_so" 3 ["holder", "flat", "shape", "fillings"] (MSp K m_flat_so) := by
  refine okM T.t_flat_so sc_flat_so (fun _ _ _ _ _ _ us hl => match us, hl with | [_, _, _, _], _ => rfl) rfl rfl ?_
  intro f cdv A outer s H E hr
  exact sms_cons (sm_set 4 (em_tup (am_nil)) sc_flat_so.nd) (sms_cons (sm_for (T := (.one 5)) (im_var 3) (gk_one 5 sc_flat_so.nd rfl) (sms_one (sm_set 4 (em_add (em_var 4) (em_ix (em_var 5) (em_int))) sc_flat_so.nd))) (sms_cons (sm_set 6 (em_tuple (em_lc (own := [("filling", 5)]) (T := (.one 5)) (im_var 3) sc_flat_so.nd (fun _ _ _ _ _ => gk_one 5 sc_flat_so.nd rfl) (bts_nil) (fun _ _ _ _ _ => em_ix (em_var 5) (em_int)) (by kernel_rfl)) T.n_tuple) sc_flat_so.nd) (sms_one (sm_ret (em_call (ok_done_so T) hr (am_cons (em_var 1) (am_cons (em_tup (am_cons (em_call (ok_number_so T) hr (am_cons (em_var 0) (am_cons (em_len (em_var 0) T.n_len) (am_cons (em_var 2) (am_cons (em_var 6) (am_nil)))))) (am_cons (em_var 4) (am_nil)))) (am_nil))))))))
theorem sc_leaves_of : FnScope ["holder", "shapes", "found", "ahead", "shape"] ["holder", "shapes"] (defScope s_leaves_of) := ⟨rfl, rfl, rfl, by decide +kernel, rfl, by decide +kernel, by decide +kernel⟩
def m_leaves_of : List Vk → Option Vk := defM 2 5 (sCons (sSet 2 (mLst (aNil))) (sCons (sSet 3 (mK (.im (.int 0)))) (sCons (sFor (.one 4) (iVar 1) (sCons (sApp 2 (mTup (aCons (mVar 4) (aCons (m2 rgV2 (mVar 3) (m2 addV (mVar 3) (m2 ixV (mVar 0) (mVar 4)))) (aNil))))) (sSet 3 (m2 addV (mVar 3) (m2 ixV (mVar 0) (mVar 4)))))) (sRet (m1 tupV (mVar 2))))))
theorem ok_leaves_of (T : TxA K mg) : Dok P w K mg base "leaves_of" 1 ["holder", "shapes"] (MSp K m_leaves_of) := by
  refine okM T.t_leaves_of sc_leaves_of (fun _ _ _ _ _ _ us hl => match us, hl with | [_, _], _ => rfl) rfl rfl ?_
  intro f cdv A outer s H E hr
  exact sms_cons (sm_set 2 (em_lst (am_nil)) sc_leaves_of.nd) (sms_cons (sm_set 3 (em_int) sc_leaves_of.nd) (sms_cons (sm_for (T := (.one 4)) (im_var 1) (gk_one 4 sc_leaves_of.nd rfl) (sms_cons (sm_app 2 (em_tup (am_cons (em_var 4) (am_cons (em_tupRg2 (em_var 3) (em_add (em_var 3) (em_ix (em_var 0) (em_var 4))) T.n_tuple T.n_range) (am_nil))))) (sms_one (sm_set 3 (em_add (em_var 3) (em_ix (em_var 0) (em_var 4))) sc_leaves_of.nd)))) (sms_one (sm_ret (em_tuple (em_var 2) T.n_tuple)))))
theorem sc_unit_so : FnScope ["holder", "unit", "thing"] ["holder", "unit", "thing"] (defScope s_unit_so) := ⟨rfl, rfl, rfl, by decide +kernel, rfl, by decide +kernel, by decide +kernel⟩
def m_unit_so : List Vk → Option Vk := defM 3 3 (sRet (mTup (aCons (mVar 1) (aCons (m2 mulT (mTup (aCons (mVar 2) (aNil))) (m2 ixV (mVar 0) (mVar 1))) (aNil)))))
theorem ok_unit_so (T : TxA K mg) : Dok P w K mg base "unit_so" 1 ["holder", "unit", "thing"] (MSp K m_unit_so) := by
  refine okM T.t_unit_so sc_unit_so (fun _ _ _ _ _ _ us hl => match us, hl with | [_, _, _], _ => rfl) rfl rfl ?_
  intro f cdv A outer s H E hr
  exact sms_one (sm_ret (em_tup (am_cons (em_var 1) (am_cons (em_mulT (em_tup (am_cons (em_var 2) (am_nil))) (em_ix (em_var 0) (em_var 1))) (am_nil)))))
theorem sc_broken_alone : FnScope ["holder", "unit", "flat", "shape", "places", "own", "alone", "place"] ["holder", "unit", "flat"] (defScope s_broken_alone) := ⟨rfl, rfl, rfl, by decide +kernel, rfl, by decide +kernel, by decide +kernel⟩
def m_broken_alone : List Vk → Option Vk := defM 3 8 (sCons (sFor (.two 3 4) (iEnum (mVar 0)) (sCons (sSet 5 (mCall m_own_so (aCons (mVar 0) (aCons (mVar 3) (aNil))))) (sIf (notT (t2 eqT (mCall m_flat_so (aCons (mVar 0) (aCons (mVar 2) (aCons (mVar 1) (aCons (m2 ixV (mCall m_unit_so (aCons (mVar 0) (aCons (mVar 1) (aCons (mVar 5) (aNil))))) (mK (.im (.int 1)))) (aNil)))))) (mVar 5))) (sRet (mTup (aCons (mK (.im (.int 0))) (aCons (mVar 3) (aNil))))) (sNil)))) (sCons (sFor (.two 3 4) (iEnum (mVar 0)) (sCons (sSet 6 (m1 tupV (mLc [7] (.one 7) (iRange (mVar 4)) (tYesM) (mCall m_unit_so (aCons (mVar 0) (aCons (mVar 1) (aCons (mVar 7) (aNil)))))))) (sIf (notT (t2 eqT (mCall m_flat_so (aCons (mVar 0) (aCons (mVar 2) (aCons (mVar 3) (aCons (mVar 6) (aNil)))))) (mCall m_own_so (aCons (mVar 0) (aCons (mVar 3) (aNil)))))) (sRet (mTup (aCons (mK (.im (.int 1))) (aCons (mVar 3) (aNil))))) (sNil)))) (sRet (mK (.im .none)))))
theorem ok_broken_alone (T : TxA K mg) : Dok P w K mg base "broken_alone" 4 ["holder", "unit", "flat"] (MSp K m_broken_alone) := by
  refine okM T.t_broken_alone sc_broken_alone (fun _ _ _ _ _ _ us hl => match us, hl with | [_, _, _], _ => rfl) rfl rfl ?_
  intro f cdv A outer s H E hr
  exact sms_cons (sm_for (T := (.two 3 4)) (im_enum (em_var 0) T.n_enumerate) (gk_two 3 4 sc_broken_alone.nd) (sms_cons (sm_set 5 (em_call (ok_own_so T) hr (am_cons (em_var 0) (am_cons (em_var 3) (am_nil)))) sc_broken_alone.nd) (sms_one (sm_if (tm_ne hr.units (em_call (ok_flat_so T) hr (am_cons (em_var 0) (am_cons (em_var 2) (am_cons (em_var 1) (am_cons (em_ix (em_call (ok_unit_so T) hr (am_cons (em_var 0) (am_cons (em_var 1) (am_cons (em_var 5) (am_nil))))) (em_int)) (am_nil)))))) (em_var 5)) (sms_one (sm_ret (em_tup (am_cons (em_int) (am_cons (em_var 3) (am_nil)))))) (sms_nil))))) (sms_cons (sm_for (T := (.two 3 4)) (im_enum (em_var 0) T.n_enumerate) (gk_two 3 4 sc_broken_alone.nd) (sms_cons (sm_set 6 (em_tuple (em_lc (own := [("place", 7)]) (T := (.one 7)) (im_range (em_var 4) T.n_range) sc_broken_alone.nd (fun _ _ _ _ _ => gk_one 7 sc_broken_alone.nd rfl) (bts_nil) (fun _ _ _ _ _ => em_call (ok_unit_so T) hr (am_cons (em_var 0) (am_cons (em_var 1) (am_cons (em_var 7) (am_nil))))) (by kernel_rfl)) T.n_tuple) sc_broken_alone.nd) (sms_one (sm_if (tm_ne hr.units (em_call (ok_flat_so T) hr (am_cons (em_var 0) (am_cons (em_var 2) (am_cons (em_var 3) (am_cons (em_var 6) (am_nil)))))) (em_call (ok_own_so T) hr (am_cons (em_var 0) (am_cons (em_var 3) (am_nil))))) (sms_one (sm_ret (em_tup (am_cons (em_int) (am_cons (em_var 3) (am_nil)))))) (sms_nil))))) (sms_one (sm_ret (em_none))))
theorem sc_is_one_thrice : FnScope ["holder", "flat", "number", "outer", "last", "shape", "inner", "leaves", "goal", "led", "parts", "at", "other"] ["holder", "flat", "number", "outer", "last"] (defScope s_is_one_thrice) := ⟨rfl, rfl, rfl, by decide +kernel, rfl, by decide +kernel, by decide +kernel⟩
def m_is_one_thrice : List Vk → Option Vk := defM 5 13 (sCons (sUnp 5 6 (mVar 3)) (sCons (sSet 7 (mCall m_leaves_of (aCons (mVar 0) (aCons (mVar 4) (aNil))))) (sCons (sUnp 8 9 (mCall m_done_so (aCons (mVar 1) (aCons (mTup (aCons (mVar 2) (aCons (mVar 7) (aNil)))) (aNil))))) (sCons (sSet 10 (mLst (aNil))) (sCons (sSet 11 (mK (.im (.int 0)))) (sCons (sFor (.one 12) (iVar 6) (sCons (sApp 10 (mCall m_flat_so (aCons (mVar 0) (aCons (mVar 1) (aCons (mVar 12) (aCons (mSl (mVar 7) (oSome (mVar 11)) (oSome (m2 addV (mVar 11) (m2 ixV (mVar 0) (mVar 12))))) (aNil))))))) (sSet 11 (m2 addV (mVar 11) (m2 ixV (mVar 0) (mVar 12)))))) (sRet (ofT (t2 eqT (mCall m_flat_so (aCons (mVar 0) (aCons (mVar 1) (aCons (mVar 8) (aCons (mVar 9) (aNil)))))) (mCall m_flat_so (aCons (mVar 0) (aCons (mVar 1) (aCons (mVar 5) (aCons (m1 tupV (mVar 10)) (aNil)))))))))))))))
theorem ok_is_one_thrice (T : TxA K mg) : Dok P w K mg base "is_one_thrice" 4 ["holder", "flat", "number", "outer", "last"] (MSp K m_is_one_thrice) := by
  refine okM T.t_is_one_thrice sc_is_one_thrice (fun _ _ _ _ _ _ us hl => match us, hl with | [_, _, _, _, _], _ => rfl) rfl rfl ?_
  intro f cdv A outer s H E hr
  exact sms_cons (sm_unp 5 6 (em_var 3) sc_is_one_thrice.nd) (sms_cons (sm_set 7 (em_call (ok_leaves_of T) hr (am_cons (em_var 0) (am_cons (em_var 4) (am_nil)))) sc_is_one_thrice.nd) (sms_cons (sm_unp 8 9 (em_call (ok_done_so T) hr (am_cons (em_var 1) (am_cons (em_tup (am_cons (em_var 2) (am_cons (em_var 7) (am_nil)))) (am_nil)))) sc_is_one_thrice.nd) (sms_cons (sm_set 10 (em_lst (am_nil)) sc_is_one_thrice.nd) (sms_cons (sm_set 11 (em_int) sc_is_one_thrice.nd) (sms_cons (sm_for (T := (.one 12)) (im_var 6) (gk_one 12 sc_is_one_thrice.nd rfl) (sms_cons (sm_app 10 (em_call (ok_flat_so T) hr (am_cons (em_var 0) (am_cons (em_var 1) (am_cons (em_var 12) (am_cons (em_sl (em_var 7) (om_some (em_var 11)) (om_some (em_add (em_var 11) (em_ix (em_var 0) (em_var 12))))) (am_nil))))))) (sms_one (sm_set 11 (em_add (em_var 11) (em_ix (em_var 0) (em_var 12))) sc_is_one_thrice.nd)))) (sms_one (sm_ret (em_eq hr.units (em_call (ok_flat_so T) hr (am_cons (em_var 0) (am_cons (em_var 1) (am_cons (em_var 8) (am_cons (em_var 9) (am_nil)))))) (em_call (ok_flat_so T) hr (am_cons (em_var 0) (am_cons (em_var 1) (am_cons (em_var 5) (am_cons (em_tuple (em_var 10) T.n_tuple) (am_nil))))))))))))))
theorem sc_broken_thrice : FnScope ["holder", "flat", "at", "number", "outer", "places", "last", "inner"] ["holder", "flat"] (defScope s_broken_thrice) := ⟨rfl, rfl, rfl, by decide +kernel, rfl, by decide +kernel, by decide +kernel⟩
def m_broken_thrice : List Vk → Option Vk := defM 2 8 (sCons (sSet 2 (mK (.im (.int 0)))) (sCons (sFor (.two 3 4) (iEnum (mCall m_into_so (aCons (mVar 0) (aCons (mVar 0) (aNil))))) (sCons (sSet 5 (m1 sumV (mLc [7] (.one 7) (iVal (m2 ixV (mVar 4) (mK (.im (.int 1))))) (tYesM) (m2 ixV (mVar 0) (mVar 7))))) (sFor (.one 6) (iVal (mCall m_rows_of (aCons (m1 lstRg (m1 lenV (mVar 0))) (aCons (mVar 5) (aNil))))) (sCons (sIf (notT (t1 vT (mCall m_is_one_thrice (aCons (mVar 0) (aCons (mVar 1) (aCons (mVar 3) (aCons (mVar 4) (aCons (mVar 6) (aNil))))))))) (sRet (mTup (aCons (mK (.im (.int 2))) (aCons (mVar 2) (aNil))))) (sNil)) (sSet 2 (m2 addV (mVar 2) (mK (.im (.int 1))))))))) (sRet (mK (.im .none)))))
theorem ok_broken_thrice (T : TxA K mg) : Dok P w K mg base "broken_thrice" 5 ["holder", "flat"] (MSp K m_broken_thrice) := by
  refine okM T.t_broken_thrice sc_broken_thrice (fun _ _ _ _ _ _ us hl => match us, hl with | [_, _], _ => rfl) rfl rfl ?_
  intro f cdv A outer s H E hr
  exact sms_cons (sm_set 2 (em_int) sc_broken_thrice.nd) (sms_cons (sm_for (T := (.two 3 4)) (im_enum (em_call (ok_into_so T) hr (am_cons (em_var 0) (am_cons (em_var 0) (am_nil)))) T.n_enumerate) (gk_two 3 4 sc_broken_thrice.nd) (sms_cons (sm_set 5 (em_sum (em_lc (own := [("inner", 7)]) (T := (.one 7)) (im_val (em_ix (em_var 4) (em_int))) sc_broken_thrice.nd (fun _ _ _ _ _ => gk_one 7 sc_broken_thrice.nd rfl) (bts_nil) (fun _ _ _ _ _ => em_ix (em_var 0) (em_var 7)) (by kernel_rfl)) T.n_sum) sc_broken_thrice.nd) (sms_one (sm_for (T := (.one 6)) (im_val (em_call (ok_rows_of T) hr (am_cons (em_lstRg (em_len (em_var 0) T.n_len) T.n_list T.n_range) (am_cons (em_var 5) (am_nil))))) (gk_one 6 sc_broken_thrice.nd rfl) (sms_cons (sm_if (tm_not (tm_val (em_call (ok_is_one_thrice T) hr (am_cons (em_var 0) (am_cons (em_var 1) (am_cons (em_var 3) (am_cons (em_var 4) (am_cons (em_var 6) (am_nil))))))))) (sms_one (sm_ret (em_tup (am_cons (em_int) (am_cons (em_var 2) (am_nil)))))) (sms_nil)) (sms_one (sm_set 2 (em_add (em_var 2) (em_int)) sc_broken_thrice.nd))))))) (sms_one (sm_ret (em_none))))
theorem sc_broken_law : FnScope ["holder", "unit", "flat", "broken"] ["holder", "unit", "flat"] (defScope s_broken_law) := ⟨rfl, rfl, rfl, by decide +kernel, rfl, by decide +kernel, by decide +kernel⟩
def m_broken_law : List Vk → Option Vk := defM 3 4 (sCons (sSet 3 (mCall m_broken_alone (aCons (mVar 0) (aCons (mVar 1) (aCons (mVar 2) (aNil)))))) (sRet (mIfE (t1 isN (mVar 3)) (mCall m_broken_thrice (aCons (mVar 0) (aCons (mVar 2) (aNil)))) (mVar 3))))
theorem ok_broken_law (T : TxA K mg) : Dok P w K mg base "broken_law" 6 ["holder", "unit", "flat"] (MSp K m_broken_law) := by
  refine okM T.t_broken_law sc_broken_law (fun _ _ _ _ _ _ us hl => match us, hl with | [_, _, _], _ => rfl) rfl rfl ?_
  intro f cdv A outer s H E hr
  exact sms_cons (sm_set 3 (em_call (ok_broken_alone T) hr (am_cons (em_var 0) (am_cons (em_var 1) (am_cons (em_var 2) (am_nil))))) sc_broken_law.nd) (sms_one (sm_ret (em_if (tm_isN (em_var 3)) (em_call (ok_broken_thrice T) hr (am_cons (em_var 0) (am_cons (em_var 2) (am_nil)))) (em_var 3))))
theorem sc_is_table : FnScope ["holder", "goal", "value", "places", "row"] ["holder", "goal", "value"] (defScope s_is_table) := ⟨rfl, rfl, rfl, by decide +kernel, rfl, by decide +kernel, by decide +kernel⟩
def m_is_table : List Vk → Option Vk := defM 3 5 (sCons (sIf (tOr (notT (t1 vT (m1 (isiV (false, false, false, false, true)) (mVar 2)))) (notT (t2 eqT (m1 lenV (mVar 2)) (m1 lenV (mVar 0))))) (sRet (mK (.im (.bool false)))) (sNil)) (sRet (ofT (t2 eqT (m1 lenV (mLc [3, 4] (.two 3 4) (iZip (mVar 0) (mVar 2)) (notT (t1 vT (mCall m_is_row (aCons (mVar 3) (aCons (mVar 1) (aCons (mVar 4) (aNil))))))) (mK (.im (.int 1))))) (mK (.im (.int 0)))))))
theorem ok_is_table (T : TxA K mg) : Dok P w K mg base "is_table" 3 ["holder", "goal", "value"] (MSp K m_is_table) := by
  refine okM T.t_is_table sc_is_table (fun _ _ _ _ _ _ us hl => match us, hl with | [_, _, _], _ => rfl) rfl rfl ?_
  intro f cdv A outer s H E hr
  exact sms_cons (sm_if (tm_or2 (tm_not (tm_val (em_isTup (em_var 2) T.n_isinstance T.n_tuple))) (tm_ne hr.units (em_len (em_var 2) T.n_len) (em_len (em_var 0) T.n_len))) (sms_one (sm_ret (em_bool))) (sms_nil)) (sms_one (sm_ret (em_eq hr.units (em_len (em_lc (own := [("places", 3), ("row", 4)]) (T := (.two 3 4)) (im_zip (em_var 0) (em_var 2) T.n_zip) sc_is_table.nd (fun _ _ _ _ _ => gk_two 3 4 sc_is_table.nd) (bts_one (fun _ _ _ _ _ => tm_not (tm_val (em_call (ok_is_row T) hr (am_cons (em_var 3) (am_cons (em_var 1) (am_cons (em_var 4) (am_nil)))))))) (fun _ _ _ _ _ => em_int) (by kernel_rfl)) T.n_len) (em_int))))
end
end Bk

set_option Elab.async false
set_option linter.all false
set_option maxRecDepth 100000
namespace Bk
open PySem PySem.Spec PyProof.Rows L2
section
variable {P : Program} {w : World} {K : PySem.W.Frag} {mg : Str → Option Value} {base : Heap}
theorem sc__law_rows : FnScope ["_law_many_so", "_law_size", "_law_found", "_law_step", "_law_more", "_law_row", "_law_thing"] ["_law_many_so", "_law_size"] (defScope s__law_rows) := ⟨rfl, rfl, rfl, by decide +kernel, rfl, by decide +kernel, by decide +kernel⟩
def m__law_rows : List Vk → Option Vk := defM 2 7 (sCons (sSet 2 (mLst (aCons (mTup (aNil)) (aNil)))) (sCons (sFor (.one 3) (iRange (mVar 0)) (sCons (sSet 4 (mLst (aNil))) (sCons (sFor (.one 5) (iVar 2) (sSet 4 (m2 addV (mVar 4) (mLc [6] (.one 6) (iRange (mVar 1)) (tYesM) (m2 addV (mVar 5) (mTup (aCons (mVar 6) (aNil)))))))) (sSet 2 (m1 lstV (mVar 4)))))) (sRetV 2)))
theorem ok__law_rows (T : TxA K mg) : Dok P w K mg base "_law_rows" 1 ["_law_many_so", "_law_size"] (MSp K m__law_rows) := by
  refine okM T.t__law_rows sc__law_rows (fun _ _ _ _ _ _ us hl => match us, hl with | [_, _], _ => rfl) rfl rfl ?_
  intro f cdv A outer s H E hr
  exact sms_cons (sm_set 2 (em_lst (am_cons (em_tup (am_nil)) (am_nil))) sc__law_rows.nd) (sms_cons (sm_for (T := (.one 3)) (im_range (em_var 0) T.n_range) (gk_one 3 sc__law_rows.nd rfl) (sms_cons (sm_set 4 (em_lst (am_nil)) sc__law_rows.nd) (sms_cons (sm_for (T := (.one 5)) (im_var 2) (gk_one 5 sc__law_rows.nd rfl) (sms_one (sm_set 4 (em_add (em_var 4) (em_lc (own := [("_law_thing", 6)]) (T := (.one 6)) (im_range (em_var 1) T.n_range) sc__law_rows.nd (fun _ _ _ _ _ => gk_one 6 sc__law_rows.nd rfl) (bts_nil) (fun _ _ _ _ _ => em_add (em_var 5) (em_tup (am_cons (em_var 6) (am_nil)))) (by kernel_rfl))) sc__law_rows.nd))) (sms_one (sm_set 2 (em_list (em_var 4) T.n_list) sc__law_rows.nd))))) (sms_one (sm_retV 2)))
theorem sc__law_fillings : FnScope ["_law_near_so", "_law_size", "_law_found", "_law_pick", "_law_many", "_law_row"] ["_law_near_so", "_law_size"] (defScope s__law_fillings) := ⟨rfl, rfl, rfl, by decide +kernel, rfl, by decide +kernel, by decide +kernel⟩
def m__law_fillings : List Vk → Option Vk := defM 2 6 (sCons (sSet 2 (mLst (aNil))) (sCons (sFor (.two 3 4) (iEnum (mVar 0)) (sSet 2 (m2 addV (mVar 2) (mLc [5] (.one 5) (iVal (mCall m__law_rows (aCons (mVar 4) (aCons (mVar 1) (aNil))))) (tYesM) (mTup (aCons (mVar 3) (aCons (mVar 5) (aNil)))))))) (sRetV 2)))
theorem ok__law_fillings (T : TxA K mg) : Dok P w K mg base "_law_fillings" 2 ["_law_near_so", "_law_size"] (MSp K m__law_fillings) := by
  refine okM T.t__law_fillings sc__law_fillings (fun _ _ _ _ _ _ us hl => match us, hl with | [_, _], _ => rfl) rfl rfl ?_
  intro f cdv A outer s H E hr
  exact sms_cons (sm_set 2 (em_lst (am_nil)) sc__law_fillings.nd) (sms_cons (sm_for (T := (.two 3 4)) (im_enum (em_var 0) T.n_enumerate) (gk_two 3 4 sc__law_fillings.nd) (sms_one (sm_set 2 (em_add (em_var 2) (em_lc (own := [("_law_row", 5)]) (T := (.one 5)) (im_val (em_call (ok__law_rows T) hr (am_cons (em_var 4) (am_cons (em_var 1) (am_nil))))) sc__law_fillings.nd (fun _ _ _ _ _ => gk_one 5 sc__law_fillings.nd rfl) (bts_nil) (fun _ _ _ _ _ => em_tup (am_cons (em_var 3) (am_cons (em_var 5) (am_nil)))) (by kernel_rfl))) sc__law_fillings.nd))) (sms_one (sm_retV 2)))
theorem sc__law_done : FnScope ["_law_table_so", "_law_filled_so", "_law_pick", "_law_places_so", "_law_place"] ["_law_table_so", "_law_filled_so"] (defScope s__law_done) := ⟨rfl, rfl, rfl, by decide +kernel, rfl, by decide +kernel, by decide +kernel⟩
def m__law_done : List Vk → Option Vk := defM 2 5 (sCons (sUnp 2 3 (m2 ixV (mVar 0) (m2 ixV (mVar 1) (mK (.im (.int 0)))))) (sRet (mTup (aCons (mVar 2) (aCons (m1 tupV (mLc [4] (.one 4) (iVar 3) (tYesM) (m2 ixV (m2 ixV (mVar 1) (mK (.im (.int 1)))) (mVar 4)))) (aNil))))))
theorem ok__law_done (T : TxA K mg) : Dok P w K mg base "_law_done" 1 ["_law_table_so", "_law_filled_so"] (MSp K m__law_done) := by
  refine okM T.t__law_done sc__law_done (fun _ _ _ _ _ _ us hl => match us, hl with | [_, _], _ => rfl) rfl rfl ?_
  intro f cdv A outer s H E hr
  exact sms_cons (sm_unp 2 3 (em_ix (em_var 0) (em_ix (em_var 1) (em_int))) sc__law_done.nd) (sms_one (sm_ret (em_tup (am_cons (em_var 2) (am_cons (em_tuple (em_lc (own := [("_law_place", 4)]) (T := (.one 4)) (im_var 3) sc__law_done.nd (fun _ _ _ _ _ => gk_one 4 sc__law_done.nd rfl) (bts_nil) (fun _ _ _ _ _ => em_ix (em_ix (em_var 1) (em_int)) (em_var 4)) (by kernel_rfl)) T.n_tuple) (am_nil))))))
theorem sc__law_tables : FnScope ["_law_near_so", "_law_far_so", "_law_found", "_law_many", "_law_ways", "_law_pick", "_law_wide", "_law_more", "_law_table_so", "_law_row", "_law_way"] ["_law_near_so", "_law_far_so"] (defScope s__law_tables) := ⟨rfl, rfl, rfl, by decide +kernel, rfl, by decide +kernel, by decide +kernel⟩
def m__law_tables : List Vk → Option Vk := defM 2 11 (sCons (sSet 2 (mLst (aCons (mTup (aNil)) (aNil)))) (sCons (sFor (.one 3) (iVar 0) (sCons (sSet 4 (mLst (aNil))) (sCons (sFor (.two 5 6) (iEnum (mVar 1)) (sSet 4 (m2 addV (mVar 4) (mLc [9] (.one 9) (iVal (mCall m__law_rows (aCons (mVar 6) (aCons (mVar 3) (aNil))))) (tYesM) (mTup (aCons (mVar 5) (aCons (mVar 9) (aNil)))))))) (sCons (sSet 7 (mLst (aNil))) (sCons (sFor (.one 8) (iVar 2) (sSet 7 (m2 addV (mVar 7) (mLc [10] (.one 10) (iVar 4) (tYesM) (m2 addV (mVar 8) (mTup (aCons (mVar 10) (aNil)))))))) (sSet 2 (m1 lstV (mVar 7)))))))) (sRetV 2)))
theorem ok__law_tables (T : TxA K mg) : Dok P w K mg base "_law_tables" 2 ["_law_near_so", "_law_far_so"] (MSp K m__law_tables) := by
  refine okM T.t__law_tables sc__law_tables (fun _ _ _ _ _ _ us hl => match us, hl with | [_, _], _ => rfl) rfl rfl ?_
  intro f cdv A outer s H E hr
  exact sms_cons (sm_set 2 (em_lst (am_cons (em_tup (am_nil)) (am_nil))) sc__law_tables.nd) (sms_cons (sm_for (T := (.one 3)) (im_var 0) (gk_one 3 sc__law_tables.nd rfl) (sms_cons (sm_set 4 (em_lst (am_nil)) sc__law_tables.nd) (sms_cons (sm_for (T := (.two 5 6)) (im_enum (em_var 1) T.n_enumerate) (gk_two 5 6 sc__law_tables.nd) (sms_one (sm_set 4 (em_add (em_var 4) (em_lc (own := [("_law_row", 9)]) (T := (.one 9)) (im_val (em_call (ok__law_rows T) hr (am_cons (em_var 6) (am_cons (em_var 3) (am_nil))))) sc__law_tables.nd (fun _ _ _ _ _ => gk_one 9 sc__law_tables.nd rfl) (bts_nil) (fun _ _ _ _ _ => em_tup (am_cons (em_var 5) (am_cons (em_var 9) (am_nil)))) (by kernel_rfl))) sc__law_tables.nd))) (sms_cons (sm_set 7 (em_lst (am_nil)) sc__law_tables.nd) (sms_cons (sm_for (T := (.one 8)) (im_var 2) (gk_one 8 sc__law_tables.nd rfl) (sms_one (sm_set 7 (em_add (em_var 7) (em_lc (own := [("_law_way", 10)]) (T := (.one 10)) (im_var 4) sc__law_tables.nd (fun _ _ _ _ _ => gk_one 10 sc__law_tables.nd rfl) (bts_nil) (fun _ _ _ _ _ => em_add (em_var 8) (em_tup (am_cons (em_var 10) (am_nil)))) (by kernel_rfl))) sc__law_tables.nd))) (sms_one (sm_set 2 (em_list (em_var 7) T.n_list) sc__law_tables.nd))))))) (sms_one (sm_retV 2)))
theorem sc__law_inside : FnScope ["_law_near_so", "_law_far_so", "_law_found", "_law_pick", "_law_wide", "_law_row"] ["_law_near_so", "_law_far_so"] (defScope s__law_inside) := ⟨rfl, rfl, rfl, by decide +kernel, rfl, by decide +kernel, by decide +kernel⟩
def m__law_inside : List Vk → Option Vk := defM 2 6 (sCons (sSet 2 (mLst (aNil))) (sCons (sFor (.two 3 4) (iEnum (mVar 0)) (sSet 2 (m2 addV (mVar 2) (mLc [5] (.one 5) (iVal (mCall m__law_rows (aCons (mVar 4) (aCons (m1 lenV (mVar 1)) (aNil))))) (tYesM) (mTup (aCons (mVar 3) (aCons (mVar 5) (aNil)))))))) (sRetV 2)))
theorem ok__law_inside (T : TxA K mg) : Dok P w K mg base "_law_inside" 2 ["_law_near_so", "_law_far_so"] (MSp K m__law_inside) := by
  refine okM T.t__law_inside sc__law_inside (fun _ _ _ _ _ _ us hl => match us, hl with | [_, _], _ => rfl) rfl rfl ?_
  intro f cdv A outer s H E hr
  exact sms_cons (sm_set 2 (em_lst (am_nil)) sc__law_inside.nd) (sms_cons (sm_for (T := (.two 3 4)) (im_enum (em_var 0) T.n_enumerate) (gk_two 3 4 sc__law_inside.nd) (sms_one (sm_set 2 (em_add (em_var 2) (em_lc (own := [("_law_row", 5)]) (T := (.one 5)) (im_val (em_call (ok__law_rows T) hr (am_cons (em_var 4) (am_cons (em_len (em_var 1) T.n_len) (am_nil))))) sc__law_inside.nd (fun _ _ _ _ _ => gk_one 5 sc__law_inside.nd rfl) (bts_nil) (fun _ _ _ _ _ => em_tup (am_cons (em_var 3) (am_cons (em_var 5) (am_nil)))) (by kernel_rfl))) sc__law_inside.nd))) (sms_one (sm_retV 2)))
theorem sc__law_parts : FnScope ["_law_near_so", "_law_row", "_law_things_so", "_law_found", "_law_at", "_law_pick"] ["_law_near_so", "_law_row", "_law_things_so"] (defScope s__law_parts) := ⟨rfl, rfl, rfl, by decide +kernel, rfl, by decide +kernel, by decide +kernel⟩
def m__law_parts : List Vk → Option Vk := defM 3 6 (sCons (sPar 3 4 (mLst (aNil)) (mK (.im (.int 0)))) (sCons (sFor (.one 5) (iVar 1) (sCons (sApp 3 (mTup (aCons (mVar 5) (aCons (m1 tupV (mSl (mVar 2) (oSome (mVar 4)) (oSome (m2 addV (mVar 4) (m2 ixV (mVar 0) (mVar 5)))))) (aNil))))) (sSet 4 (m2 addV (mVar 4) (m2 ixV (mVar 0) (mVar 5)))))) (sRetV 3)))
theorem ok__law_parts (T : TxA K mg) : Dok P w K mg base "_law_parts" 1 ["_law_near_so", "_law_row", "_law_things_so"] (MSp K m__law_parts) := by
  refine okM T.t__law_parts sc__law_parts (fun _ _ _ _ _ _ us hl => match us, hl with | [_, _, _], _ => rfl) rfl rfl ?_
  intro f cdv A outer s H E hr
  exact sms_cons (sm_par 3 4 (em_lst (am_nil)) (em_int) sc__law_parts.nd) (sms_cons (sm_for (T := (.one 5)) (im_var 1) (gk_one 5 sc__law_parts.nd rfl) (sms_cons (sm_app 3 (em_tup (am_cons (em_var 5) (am_cons (em_tuple (em_sl (em_var 2) (om_some (em_var 4)) (om_some (em_add (em_var 4) (em_ix (em_var 0) (em_var 5))))) T.n_tuple) (am_nil))))) (sms_one (sm_set 4 (em_add (em_var 4) (em_ix (em_var 0) (em_var 5))) sc__law_parts.nd)))) (sms_one (sm_retV 3)))
theorem sc__law_flat : FnScope ["_law_inside_so", "_law_flat_so", "_law_pick", "_law_parts_here", "_law_row", "_law_things_so", "_law_part"] ["_law_inside_so", "_law_flat_so", "_law_pick", "_law_parts_here"] (defScope s__law_flat) := ⟨rfl, rfl, rfl, by decide +kernel, rfl, by decide +kernel, by decide +kernel⟩
def m__law_flat : List Vk → Option Vk := defM 4 7 (sCons (sUnp 4 5 (mTup (aCons (mTup (aNil)) (aCons (mTup (aNil)) (aNil))))) (sCons (sFor (.one 6) (iVar 3) (sCons (sSet 4 (m2 addV (mVar 4) (mTup (aCons (m2 ixV (mVar 6) (mK (.im (.int 0)))) (aNil))))) (sSet 5 (m2 addV (mVar 5) (m2 ixV (mVar 6) (mK (.im (.int 1)))))))) (sRet (mCall m__law_done (aCons (mVar 1) (aCons (mTup (aCons (m2 idxV (mVar 0) (mTup (aCons (mVar 2) (aCons (mVar 4) (aNil))))) (aCons (mVar 5) (aNil)))) (aNil)))))))
theorem ok__law_flat (T : TxA K mg) : Dok P w K mg base "_law_flat" 2 ["_law_inside_so", "_law_flat_so", "_law_pick", "_law_parts_here"] (MSp K m__law_flat) := by
  refine okM T.t__law_flat sc__law_flat (fun _ _ _ _ _ _ us hl => match us, hl with | [_, _, _, _], _ => rfl) rfl rfl ?_
  intro f cdv A outer s H E hr
  exact sms_cons (sm_unp 4 5 (em_tup (am_cons (em_tup (am_nil)) (am_cons (em_tup (am_nil)) (am_nil)))) sc__law_flat.nd) (sms_cons (sm_for (T := (.one 6)) (im_var 3) (gk_one 6 sc__law_flat.nd rfl) (sms_cons (sm_set 4 (em_add (em_var 4) (em_tup (am_cons (em_ix (em_var 6) (em_int)) (am_nil)))) sc__law_flat.nd) (sms_one (sm_set 5 (em_add (em_var 5) (em_ix (em_var 6) (em_int))) sc__law_flat.nd)))) (sms_one (sm_ret (em_call (ok__law_done T) hr (am_cons (em_var 1) (am_cons (em_tup (am_cons (em_index hr.units hr.units1 (em_var 0) (em_tup (am_cons (em_var 2) (am_cons (em_var 4) (am_nil))))) (am_cons (em_var 5) (am_nil)))) (am_nil)))))))
theorem sc__law_alone_held : FnScope ["_law_near_so", "_law_inside_so", "_law_unit", "_law_flat_so", "_law_filled_so", "_law_pick", "_law_row", "_law_alone", "_law_thing"] ["_law_near_so", "_law_inside_so", "_law_unit", "_law_flat_so"] (defScope s__law_alone_held) := ⟨rfl, rfl, rfl, by decide +kernel, rfl, by decide +kernel, by decide +kernel⟩
def m__law_alone_held : List Vk → Option Vk := defM 4 9 (sCons (sFor (.one 4) (iVal (mCall m__law_fillings (aCons (mVar 0) (aCons (mK (.im (.int 2))) (aNil))))) (sIf (notT (t2 eqT (mCall m__law_flat (aCons (mVar 1) (aCons (mVar 3) (aCons (mVar 2) (aCons (m2 mulV (mLst (aCons (mVar 4) (aNil))) (m2 ixV (mVar 0) (mVar 2))) (aNil)))))) (mVar 4))) (sRet (mK (.im (.bool false)))) (sNil))) (sCons (sFor (.two 5 6) (iVal (mCall m__law_fillings (aCons (mVar 0) (aCons (mK (.im (.int 2))) (aNil))))) (sCons (sSet 7 (mLc [8] (.one 8) (iVar 6) (tYesM) (mTup (aCons (mVar 2) (aCons (m2 mulT (mTup (aCons (mVar 8) (aNil))) (m2 ixV (mVar 0) (mVar 2))) (aNil)))))) (sIf (notT (t2 eqT (mCall m__law_flat (aCons (mVar 1) (aCons (mVar 3) (aCons (mVar 5) (aCons (mVar 7) (aNil)))))) (mTup (aCons (mVar 5) (aCons (mVar 6) (aNil)))))) (sRet (mK (.im (.bool false)))) (sNil)))) (sRet (mK (.im (.bool true))))))
theorem ok__law_alone_held (T : TxA K mg) : Dok P w K mg base "_law_alone_held" 3 ["_law_near_so", "_law_inside_so", "_law_unit", "_law_flat_so"] (MSp K m__law_alone_held) := by
  refine okM T.t__law_alone_held sc__law_alone_held (fun _ _ _ _ _ _ us hl => match us, hl with | [_, _, _, _], _ => rfl) rfl rfl ?_
  intro f cdv A outer s H E hr
  exact sms_cons (sm_for (T := (.one 4)) (im_val (em_call (ok__law_fillings T) hr (am_cons (em_var 0) (am_cons (em_int) (am_nil))))) (gk_one 4 sc__law_alone_held.nd rfl) (sms_one (sm_if (tm_ne hr.units (em_call (ok__law_flat T) hr (am_cons (em_var 1) (am_cons (em_var 3) (am_cons (em_var 2) (am_cons (em_mul (em_lst (am_cons (em_var 4) (am_nil))) (em_ix (em_var 0) (em_var 2))) (am_nil)))))) (em_var 4)) (sms_one (sm_ret (em_bool))) (sms_nil)))) (sms_cons (sm_for (T := (.two 5 6)) (im_val (em_call (ok__law_fillings T) hr (am_cons (em_var 0) (am_cons (em_int) (am_nil))))) (gk_two 5 6 sc__law_alone_held.nd) (sms_cons (sm_setLc 7 (own := [("_law_thing", 8)]) (T := (.one 8)) (im_var 6) sc__law_alone_held.nd (fun _ _ _ _ _ => gk_one 8 sc__law_alone_held.nd rfl) (bts_nil) (fun _ _ _ _ _ => em_tup (am_cons (em_var 2) (am_cons (em_mulT (em_tup (am_cons (em_var 8) (am_nil))) (em_ix (em_var 0) (em_var 2))) (am_nil)))) (by kernel_rfl)) (sms_one (sm_if (tm_ne hr.units (em_call (ok__law_flat T) hr (am_cons (em_var 1) (am_cons (em_var 3) (am_cons (em_var 5) (am_cons (em_var 7) (am_nil)))))) (em_tup (am_cons (em_var 5) (am_cons (em_var 6) (am_nil))))) (sms_one (sm_ret (em_bool))) (sms_nil))))) (sms_one (sm_ret (em_bool))))
theorem sc__law_joins_held : FnScope ["_law_near_so", "_law_inside_so", "_law_flat_so", "_law_outer", "_law_last", "_law_number", "_law_row", "_law_leaves", "_law_goal_so", "_law_led", "_law_within", "_law_parts_here", "_law_pick", "_law_some"] ["_law_near_so", "_law_inside_so", "_law_flat_so", "_law_outer", "_law_last"] (defScope s__law_joins_held) := ⟨rfl, rfl, rfl, by decide +kernel, rfl, by decide +kernel, by decide +kernel⟩
def m__law_joins_held : List Vk → Option Vk := defM 5 14 (sCons (sSet 5 (m2 idxV (mVar 1) (mVar 3))) (sCons (sFor (.one 6) (iVal (mCall m__law_rows (aCons (m1 sumV (mLc [12] (.one 12) (iVar 4) (tYesM) (m2 ixV (mVar 0) (mVar 12)))) (aCons (mK (.im (.int 2))) (aNil))))) (sCons (sSet 7 (m1 tupV (mCall m__law_parts (aCons (mVar 0) (aCons (mVar 4) (aCons (mVar 6) (aNil))))))) (sCons (sUnp 8 9 (mCall m__law_done (aCons (mVar 2) (aCons (mTup (aCons (mVar 5) (aCons (mVar 7) (aNil)))) (aNil))))) (sCons (sSet 10 (mCall m__law_parts (aCons (mVar 0) (aCons (m2 ixV (mVar 3) (mK (.im (.int 1)))) (aCons (mVar 7) (aNil)))))) (sCons (sSet 11 (mLc [12, 13] (.two 12 13) (iVar 10) (tYesM) (mCall m__law_flat (aCons (mVar 1) (aCons (mVar 2) (aCons (mVar 12) (aCons (mVar 13) (aNil)))))))) (sIf (notT (t2 eqT (mCall m__law_flat (aCons (mVar 1) (aCons (mVar 2) (aCons (mVar 8) (aCons (mVar 9) (aNil)))))) (mCall m__law_flat (aCons (mVar 1) (aCons (mVar 2) (aCons (m2 ixV (mVar 3) (mK (.im (.int 0)))) (aCons (mVar 11) (aNil)))))))) (sRet (mK (.im (.bool false)))) (sNil))))))) (sRet (mK (.im (.bool true))))))
theorem ok__law_joins_held (T : TxA K mg) : Dok P w K mg base "_law_joins_held" 3 ["_law_near_so", "_law_inside_so", "_law_flat_so", "_law_outer", "_law_last"] (MSp K m__law_joins_held) := by
  refine okM T.t__law_joins_held sc__law_joins_held (fun _ _ _ _ _ _ us hl => match us, hl with | [_, _, _, _, _], _ => rfl) rfl rfl ?_
  intro f cdv A outer s H E hr
  exact sms_cons (sm_set 5 (em_index hr.units hr.units1 (em_var 1) (em_var 3)) sc__law_joins_held.nd) (sms_cons (sm_for (T := (.one 6)) (im_val (em_call (ok__law_rows T) hr (am_cons (em_sum (em_lc (own := [("_law_pick", 12)]) (T := (.one 12)) (im_var 4) sc__law_joins_held.nd (fun _ _ _ _ _ => gk_one 12 sc__law_joins_held.nd rfl) (bts_nil) (fun _ _ _ _ _ => em_ix (em_var 0) (em_var 12)) (by kernel_rfl)) T.n_sum) (am_cons (em_int) (am_nil))))) (gk_one 6 sc__law_joins_held.nd rfl) (sms_cons (sm_set 7 (em_tuple (em_call (ok__law_parts T) hr (am_cons (em_var 0) (am_cons (em_var 4) (am_cons (em_var 6) (am_nil))))) T.n_tuple) sc__law_joins_held.nd) (sms_cons (sm_unp 8 9 (em_call (ok__law_done T) hr (am_cons (em_var 2) (am_cons (em_tup (am_cons (em_var 5) (am_cons (em_var 7) (am_nil)))) (am_nil)))) sc__law_joins_held.nd) (sms_cons (sm_set 10 (em_call (ok__law_parts T) hr (am_cons (em_var 0) (am_cons (em_ix (em_var 3) (em_int)) (am_cons (em_var 7) (am_nil))))) sc__law_joins_held.nd) (sms_cons (sm_setLc 11 (own := [("_law_pick", 12), ("_law_some", 13)]) (T := (.two 12 13)) (im_var 10) sc__law_joins_held.nd (fun _ _ _ _ _ => gk_two 12 13 sc__law_joins_held.nd) (bts_nil) (fun _ _ _ _ _ => em_call (ok__law_flat T) hr (am_cons (em_var 1) (am_cons (em_var 2) (am_cons (em_var 12) (am_cons (em_var 13) (am_nil)))))) (by kernel_rfl)) (sms_one (sm_if (tm_ne hr.units (em_call (ok__law_flat T) hr (am_cons (em_var 1) (am_cons (em_var 2) (am_cons (em_var 8) (am_cons (em_var 9) (am_nil)))))) (em_call (ok__law_flat T) hr (am_cons (em_var 1) (am_cons (em_var 2) (am_cons (em_ix (em_var 3) (em_int)) (am_cons (em_var 11) (am_nil))))))) (sms_one (sm_ret (em_bool))) (sms_nil)))))))) (sms_one (sm_ret (em_bool))))
theorem sc__law_is_book : FnScope ["_law_near_so", "_law_inside_so", "_law_unit", "_law_flat_so", "_law_outer", "_law_last", "_law_pick"] ["_law_near_so", "_law_inside_so", "_law_unit", "_law_flat_so"] (defScope s__law_is_book) := ⟨rfl, rfl, rfl, by decide +kernel, rfl, by decide +kernel, by decide +kernel⟩
def m__law_is_book : List Vk → Option Vk := defM 4 7 (sCons (sIf (notT (t1 vT (mCall m__law_alone_held (aCons (mVar 0) (aCons (mVar 1) (aCons (mVar 2) (aCons (mVar 3) (aNil)))))))) (sRet (mK (.im (.bool false)))) (sNil)) (sCons (sFor (.one 4) (iVar 1) (sFor (.one 5) (iVal (mCall m__law_rows (aCons (m1 sumV (mLc [6] (.one 6) (iVal (m2 ixV (mVar 4) (mK (.im (.int 1))))) (tYesM) (m2 ixV (mVar 0) (mVar 6)))) (aCons (m1 lenV (mVar 0)) (aNil))))) (sIf (notT (t1 vT (mCall m__law_joins_held (aCons (mVar 0) (aCons (mVar 1) (aCons (mVar 3) (aCons (mVar 4) (aCons (mVar 5) (aNil))))))))) (sRet (mK (.im (.bool false)))) (sNil)))) (sRet (mK (.im (.bool true))))))
theorem ok__law_is_book (T : TxA K mg) : Dok P w K mg base "_law_is_book" 4 ["_law_near_so", "_law_inside_so", "_law_unit", "_law_flat_so"] (MSp K m__law_is_book) := by
  refine okM T.t__law_is_book sc__law_is_book (fun _ _ _ _ _ _ us hl => match us, hl with | [_, _, _, _], _ => rfl) rfl rfl ?_
  intro f cdv A outer s H E hr
  exact sms_cons (sm_if (tm_not (tm_val (em_call (ok__law_alone_held T) hr (am_cons (em_var 0) (am_cons (em_var 1) (am_cons (em_var 2) (am_cons (em_var 3) (am_nil)))))))) (sms_one (sm_ret (em_bool))) (sms_nil)) (sms_cons (sm_for (T := (.one 4)) (im_var 1) (gk_one 4 sc__law_is_book.nd rfl) (sms_one (sm_for (T := (.one 5)) (im_val (em_call (ok__law_rows T) hr (am_cons (em_sum (em_lc (own := [("_law_pick", 6)]) (T := (.one 6)) (im_val (em_ix (em_var 4) (em_int))) sc__law_is_book.nd (fun _ _ _ _ _ => gk_one 6 sc__law_is_book.nd rfl) (bts_nil) (fun _ _ _ _ _ => em_ix (em_var 0) (em_var 6)) (by kernel_rfl)) T.n_sum) (am_cons (em_len (em_var 0) T.n_len) (am_nil))))) (gk_one 5 sc__law_is_book.nd rfl) (sms_one (sm_if (tm_not (tm_val (em_call (ok__law_joins_held T) hr (am_cons (em_var 0) (am_cons (em_var 1) (am_cons (em_var 3) (am_cons (em_var 4) (am_cons (em_var 5) (am_nil))))))))) (sms_one (sm_ret (em_bool))) (sms_nil)))))) (sms_one (sm_ret (em_bool))))
end
end Bk

set_option Elab.async false
set_option linter.all false
set_option maxRecDepth 100000
/-! mirrors of defs that raise -/
namespace Bk
open PySem PySem.Spec PyProof.Rows L2
/-- an own error: great (TooGreat) or not (BadBook), and what its field holds -/
inductive RX where
  | go (G : Cn)
  | ret (k : Vk)
  | exc (great : Bool) (d : PyData)
inductive RK where
  | ok (k : Vk)
  | exc (great : Bool) (d : PyData)
abbrev MX := Cn → Option RX
def xLift (m : MS) : MX := fun G => bnd (m G) fun r => match r with
  | .go G' => some (.go G')
  | .ret k => some (.ret k)
def xRaise (great : Bool) (m : MV) : MX := fun G => bnd (m G) fun k => match k with
  | .im d => some (.exc great d)
  | _ => none
def xExpr (f : List Vk → Option RK) (r : ML) : MX := fun G => bnd (r G) fun ks => bnd (f ks) fun q => match q with
  | .ok _ => some (.go G)
  | .exc g d => some (.exc g d)
def xRet (f : List Vk → Option RK) (r : ML) : MX := fun G => bnd (r G) fun ks => bnd (f ks) fun q => match q with
  | .ok k => some (.ret k)
  | .exc g d => some (.exc g d)
def xCons (a b : MX) : MX := fun G => bnd (a G) fun r => match r with
  | .go G' => b G'
  | .ret k => some (.ret k)
  | .exc g d => some (.exc g d)
def xIf (c : MT) (a : MX) (b : MX) : MX := fun G => bnd (c G) fun z => match z with
  | true => a G
  | false => b G
def xNil : MX := fun G => some (.go G)
def defX (n N : Nat) (body : MX) : List Vk → Option RK := fun ks => grd (Nat.beq ks.length n) (bnd (body (ks.map Vk.kd ++ List.replicate (N - ks.length) .no)) fun r => match r with
  | .ret k => some (.ok k)
  | .go _ => some (.ok (.im .none))
  | .exc g d => some (.exc g d))

/-- a def that hands back a pair of its own lists -/
def defP (n N i j : Nat) (body : MS) : List Vk → Option (List PyData × List PyData) := fun ks => grd (Nat.beq ks.length n) (bnd (body (ks.map Vk.kd ++ List.replicate (N - ks.length) .no)) fun r => match r with
  | .go G => match G[i]?, G[j]? with
    | some (.ml ds), some (.ml es) => some (ds, es)
    | _, _ => none
  | .ret _ => none)
end Bk

set_option Elab.async false
set_option linter.all false
set_option maxRecDepth 100000
set_option maxHeartbeats 2000000
/-! an own error whose __init__ says super().__init__(x), then keeps x in a field -/
namespace PySem
namespace BkX
open PySem.W PySem.Calls PyProof.Rows PySem.HandSPX
def clsInit (st : Stmt) : Stmt := match st with
  | .ClassDef _ _ _ (b :: _) _ _ _ _ _ _ _ => b
  | s => s
/-- its __init__, as written -/
def inArgs (fld : Str) (a1 a2 : Pos) : Arguments := { posonlyargs := [], args := [{ arg := "self", annotation := none, pos := a1 }, { arg := fld, annotation := none, pos := a2 }], vararg := none, kwonlyargs := [], kw_defaults := [], kwarg := none, defaults := [] }
def inBody (fld : Str) (p0 p1 p2 p3 p4 p5 q1 q2 q3 q4 : Pos) : List Stmt :=
  [.Expr (.Call (.Attribute (.Call (.Name "super" p0) [] [] p1) "__init__" p2) [.Name fld p3] [] p4) p5, .Assign [.Attribute (.Name "self" q1) fld q2] (.Name fld q3) q4]
def inScope (fld : Str) : Scope := { kind := .function, names := [("self", .local), (fld, .local), ("__class__", .free), ("super", .globalImplicit)], isGenerator := false, isCoroutine := false, more := [] }
/-- how super().__init__(x) is evaluated, where it stands in the text -/
def CallSo (fld : Str) (p0 p1 p2 p3 p4 : Pos) : Prop := ∃ pl : Sem Bool, ∀ env : Env, eval (.Call (.Attribute (.Call (.Name "super" p0) [] [] p1) "__init__" p2) [.Name fld p3] [] p4) env = (do
  let ov ← attributeBase (.Call (.Name "super" p0) [] [] p1) "__init__" env (eval (.Call (.Name "super" p0) [] [] p1) env)
  standAt p2.atName
  let (f, first) ← holding [ov] (getMethod ov "__init__" pl)
  callWith p4 f first (backTo p4 (starEach [.Name fld p3] env)) [])
theorem callSo_1 : CallSo "place" ⟨12, 8, 12, 13⟩ ⟨12, 8, 12, 15⟩ ⟨12, 8, 12, 24⟩ ⟨12, 25, 12, 30⟩ ⟨12, 8, 12, 31⟩ := ⟨_, fun _ => by rfl⟩
/-- what the written part tells of the class -/
structure OwnTxt (P : Program) (K : Frag) (mg : Str → Option Value) (x fld : Str) (C : Addr) : Prop where
  gC : mg x = some (.ref C)
  cls : ∃ nm q N bs bm sn sub ab col dd k0 k1 k2 k3 k5, K.lookup C = some (excClassObj nm q C N bs bm true sn sub ab col dd k0 k1 k2 k3 k5 "ValueError.__new__") ∧ refsVE bm = true
  sa : findIn K (.ref C) "__setattr__" = some (some (.builtin "object.__setattr__"))
  ga : findIn K (.ref C) "__getattribute__" = some (some (.builtin "BaseException.__getattribute__"))
  gg : findIn K (.ref C) "__getattr__" = some none
  noN : findIn K (.ref C) fld = some none
  kC : keepIn K (.ref C) = true
  exC : subIn K (.ref C) (.type "BaseException") = some true
  tyC : typeIn K (.ref C) = some (.type "type")
  hdC : hasDictIn K C = true
  mroC : mroIn K C (.ref C) = some true
  subV : subIn K (.ref C) (.type "ValueError") = some true
  supI : ks_superIn K C C "__init__" = some (some (.builtin "ValueError.__init__"))
  exI : excInitIn K C HandSPX.veTail "ValueError.__new__" = true
  opq : nsIn K cStatics "thirdparty.any" = some none
  noS : mg "super" = none
  top : (P.main.scope.names.lookup ("super" : Str)).isSome = false
  fn : ∃ (fI cda cc : Addr) (oc ccl cl : Value) (od cdd cld : Option Addr) (doc pm ct kV : Value) (an : Option Addr) (osl ccs csl : Array (Option Value)) (q : Str) (vs : Array Value) (file : Str) (tf : Tok) (a1 a2 p0 p1 p2 p3 p4 p5 q1 q2 q3 q4 : Pos),
    findIn K (.ref C) "__init__" = some (some (.ref fI)) ∧ typeIn K (.ref fI) = some (.type "function") ∧
    K.lookup fI = some ⟨oc, od, .func (ksFn "__init__" q (inArgs fld a1 a2) (inBody fld p0 p1 p2 p3 p4 p5 q1 q2 q3 q4) (inScope fld) .none kV doc pm an (.ref cda) ct cc), osl⟩ ∧ codeIn K (.ref cda) q = true ∧
    K.lookup cda = some ⟨ccl, cdd, .fields vs, ccs⟩ ∧ vs[2]? = some (.str file tf) ∧ ((P.main.file : Str) == file) = true ∧ K.lookup cc = some ⟨cl, cld, .cell (some (.ref C)), csl⟩ ∧ CallSo fld p0 p1 p2 p3 p4
/-- the field's name -/
def FldOk (fld : Str) : Prop := fld = "place" ∨ fld = "most"
theorem one_fits (v : Value) : [v].length ≤ sizeLine := by
  rw [sizeLine_eq]
  show 1 ≤ 16777216
  omega
structure InitDone (h h' : Heap) (fld : Str) (x C dx t1 : Addr) (v : Value) : Prop where
  keep : ∀ b o, b ≠ x → h.get? b = some o → h'.get? b = some o
  obj : h'.get? x = some { cls := .ref C, dict := some dx, data := .fields #[.ref t1, .none, .none, .none, .bool false, .none] }
  dbig : h.objs.size ≤ dx
  dne : dx ≠ x
  ns : h'.Ns1 dx (fun y => if y = fld then some v else none)
structure Made (h h' : Heap) (fld : Str) (e C d : Addr) (v : Value) : Prop where
  keep : ∀ b o, h.get? b = some o → h'.get? b = some o
  new : h.objs.size ≤ e
  obj : ∃ oe vs, h'.get? e = some oe ∧ oe.cls = .ref C ∧ oe.dict = some d ∧ oe.data = .fields vs ∧ vs[1]? = some .none
  dbig : h.objs.size ≤ d
  dne : d ≠ e
  ns : h'.Ns1 d (fun y => if y = fld then some v else none)
theorem frag_hide {K : Frag} {h : Heap} {x : Addr} (X : K.In h) (hx : K.lookup x = none) : K.In (hideAll h [x]) := fun a o e =>
  hideAll_get _ (X a o e) fun m => by
    have z : a = x := by simpa using m
    rw [z, hx] at e
    cases e
section
variable {prog : Program} {w : World} {A : Around} {E : Value → Shared → Prop} {R : Result → Shared → Prop} {s : Shared} {K : Frag} {mg : Str → Option Value} {base : Heap} {C : Addr} {x fld : Str}
theorem ld_local {M : Model} {env : Env} {m : Str → Option Value} {y : Str} {pos : Pos} {v : Value} {Q : Value → Shared → Prop} (hn : s.heap.Ns env.locals m) (hv : m y = some v) (hq : Q v s) (hk : env.scope.kind = .function) (hl : env.kindOf y = some .local) (hd : (y == ("__debug__" : Str)) = false) :
    wpAny M A (eval (.Name y pos) env) Q E s := wpAny_Name (wpAny_loadName_local hk hl hn hv hq) hd
theorem init_done (T : OwnTxt prog K mg x fld C) (F : FldOk fld) (Mo : L2.Mod K mg base) (hb : ∀ b o, base.get? b = some o → s.heap.get? b = some o) {e t0 : Addr} {v : Value} {fI : Addr} (hfI : findIn K (.ref C) "__init__" = some (some (.ref fI)))
    (hx : s.heap.get? e = some (excO C t0)) (hnx : K.lookup e = none) (hbx : base.get? e = none) (hroom : A.depth < recursionLimit)
    (hq : ∀ h' tk dx t1, InitDone s.heap h' fld e C dx t1 v → R (.ok (.ret .none)) { s with heap := h', toks := tk }) :
    codeAny (model prog w) A (.call (.ref fI) ⟨[.ref e, v], []⟩) R s := by
  obtain ⟨fI', cda, cc, oc, ccl, cl, od, cdd, cld, doc, pm, ct, kV, an, osl, ccs, csl, q, vs, file, tf, a1, a2, p0, p1, p2, p3, p4, p5, q1, q2, q3, q4, e1, tI, lI, cI, lcd, hvs, hfile, lcc, pl, hcall⟩ := T.fn
  rw [hfI] at e1
  cases e1
  obtain ⟨nm, qn, N, bs, bm, sn, sub, ab, col, dd, k0, k1, k2, k3, k5, hC, hbm⟩ := T.cls
  have hcl : clsIn K C = some { name := nm, bases := bs, mro := .ref C :: bm, ns := N, qualname := qn, hasDict := true, slotNames := sn, subclasses := sub, abstract := ab, collection := col, hasDel := false } := by unfold clsIn; rw [hC] <;> rfl
  have X : K.In s.heap := fun a o z => hb a o (Mo.kin a o z)
  have kinds : ∀ (L : Addr), (ksEnv q (inScope fld) L fI (.ref cda) cc).kindOf "super" = some .globalImplicit ∧ (ksEnv q (inScope fld) L fI (.ref cda) cc).kindOf "__class__" = some .free ∧ (ksEnv q (inScope fld) L fI (.ref cda) cc).kindOf "self" = some .local ∧ (ksEnv q (inScope fld) L fI (.ref cda) cc).kindOf fld = some .local ∧ (fld == ("__debug__" : Str)) = false := fun L => by
    rcases F with rfl | rfl
    · exact ⟨rfl, rfl, rfl, rfl, by decide⟩
    · exact ⟨rfl, rfl, rfl, rfl, by decide⟩
  have look : [(("self" : Str), Value.ref e), (fld, v)].reverse.lookup ("self" : Str) = some (Value.ref e) ∧ [(("self" : Str), Value.ref e), (fld, v)].reverse.lookup fld = some v := by
    rcases F with rfl | rfl
    · exact ⟨rfl, rfl⟩
    · exact ⟨rfl, rfl⟩
  refine ks_codeAny_call_defAt (fd := ksFn "__init__" q (inArgs fld a1 a2) (inBody fld p0 p1 p2 p3 p4 p5 q1 q2 q3 q4) (inScope fld) .none kV doc pm an (.ref cda) ct cc) (body := inBody fld p0 p1 p2 p3 p4 p5 q1 q2 q3 q4) (binds := [("self", .ref e), (fld, v)])
    hroom (X _ _ lI) rfl (Mo.nolimit.keeps hb) (codeRec_of X cI) rfl ?bind ?cell ?loc (fun h₁ hns hk => ?_)
  case bind =>
    rcases F with rfl | rfl
    · exact BindsTo.of_eq rfl
    · exact BindsTo.of_eq rfl
  case cell =>
    rcases F with rfl | rfl
    · show ∀ x ∈ (inScope "place").names, x.2 ≠ .cell
      decide +kernel
    · show ∀ x ∈ (inScope "most").names, x.2 ≠ .cell
      decide +kernel
  case loc =>
    intro y hy
    rcases F with rfl | rfl
    · rcases List.mem_cons.mp hy with rfl | hy
      · rfl
      · rcases List.mem_cons.mp hy with rfl | hy
        · rfl
        · cases hy
    · rcases List.mem_cons.mp hy with rfl | hy
      · rfl
      · rcases List.mem_cons.mp hy with rfl | hy
        · rfl
        · cases hy
  obtain ⟨kS, kCl, kSelf, kF, nD⟩ := kinds s.heap.objs.size
  have F0 : Fr (hideAll s.heap [e]) s.heap.objs.size h₁ (fun y => [(("self" : Str), Value.ref e), (fld, v)].reverse.lookup y) := ⟨hns, fun b o z => hk b o (of_hideAll _ z), Nat.le_of_eq (hideAll_size _ _)⟩
  have hlt : e < s.heap.objs.size := Heap.lt_size hx
  have N0 : News (hideAll s.heap [e]) s.heap.objs.size h₁ [(e, excO C t0)] := fun p hp => by
    have ep : p = (e, excO C t0) := by simpa using hp
    subst ep
    exact ⟨hk _ _ hx, Nat.ne_of_lt hlt, hideAll_none _ (by simp)⟩
  have X0 : K.In (hideAll s.heap [e]) := frag_hide X hnx
  have bh : ∀ b o, base.get? b = some o → (hideAll s.heap [e]).get? b = some o := fun b o z => hideAll_get _ (hb b o z) fun m => by
    have ez : b = e := by simpa using m
    rw [ez, hbx] at z
    cases z
  have X1 : K.In h₁ := X0.keeps F0.keep
  have b1 : ∀ b o, base.get? b = some o → h₁.get? b = some o := fun b o z => F0.keep b o (bh b o z)
  obtain ⟨mb, hmb, hboot⟩ := Mo.blt
  obtain ⟨hp, ge, dr, tk, os⟩ := s
  refine ks_wpAt_execs_cons (ks_wpAt_Expr_any (ks_wpAt_MethodCall ?_ (hcall _)) rfl rfl)
  refine ks_wpAt_super_base kS kCl (by decide) rfl (X1 _ _ lI) rfl rfl rfl (X1 _ _ lcd) rfl hvs hfile T.top ?_
  refine ks_loadName_global rfl kS (loadGlobal_builtin (Mo.glob.keeps b1) T.noS (hmb.keeps b1) ((hboot _ (by decide)).trans (by decide +kernel)) ⟨rfl, ?_⟩)
  refine wpAny_loadName_free rfl kCl rfl ⟨_, X1 _ _ lcc, rfl⟩ ?_
  refine wpAny_loadName_local rfl kSelf F0.ns look.1 ?_
  have hD1 := X1 _ _ hC
  refine ks_wpAny_isType_cls hD1 rfl ⟨rfl, ?_⟩
  have m0 : (e, excO C t0) ∈ [(e, excO C t0)] := List.mem_cons_self
  refine ks_wpAny_call_super hD1 rfl (N0 _ m0).1 rfl (fun c z => by cases z) (looks_mroIn X1 T.mroC) (fun h2 hso k2 => ?_)
  obtain ⟨F1, N1, l1⟩ := ks_newsPush (s := ⟨h₁, ge, dr, tk + [(("self" : Str), Value.ref e), (fld, v)].length, os⟩) (o := ks_superObj C e C) F0 N0 rfl hso k2
  have I1 : InstAt h2 e (excO C t0) C none := InstAt.of_exc0 N1 (List.mem_cons_of_mem _ m0)
  refine kxs_method kxs_ValueError F1 X0 N1 List.mem_cons_self I1 T.opq T.supI T.subV (by decide) (fun u h3 F2 N2 l2 => ?_)
  refine kxs_callWith1 (i := "ValueError.__init__") (x := e) N2 List.mem_cons_self ?_
  refine spliced_cons (ld_local F2.ns look.2 ?_ rfl kF nD)
  refine spliced_nil ⟨kxs_at N2 List.mem_cons_self, ?_⟩
  have ne1 := l2 _ (List.mem_cons_of_mem _ m0)
  have ne2 := l1 _ m0
  refine kxs_call (dv := none) (c2 := .none) F2 X0 N2 PySem.F.excBase_ValueError T.exI List.mem_cons_self (.tail (Nat.ne_of_gt ne1) (.tail (Nat.ne_of_gt ne2) (.head fun p hp => by cases hp))) (one_fits v) (fun t1 h4 F3 N3 l3 => ?_)
  have hx4 := (N3 (e, excObj C t1 none .none) (by simp)).1
  have X4 : K.In h4 := X0.keeps F3.keep
  refine wpAt_of_wpAny (wpAny_execs_cons (plainObj_wpAny_Assign_Attribute ?_))
  refine ld_local F3.ns look.2 (ld_local F3.ns look.1 ?_ rfl kSelf (by decide)) rfl kF nD
  refine set_plain X4 (ox := excO C t1) (od := none) ⟨hx4, rfl, rfl, trivial⟩ T.sa ?_
  refine exc_osa X4 hx4 hcl (show refsVE (.ref C :: bm) = true from hbm) rfl T.noN (fun h5 tk5 dx k5 dn dne hx5 hn5 => ?_)
  show wpAny _ _ (execs _ _) _ _ _
  refine wpAny_execs_nil (hq h5 tk5 dx t1 ⟨fun b o hb' z => k5 b o hb' (F3.keep b o (hideAll_get _ z fun m => hb' (by simpa using m))), hx5, ?_, dne, hn5⟩)
  have z1 : e < h4.objs.size := Heap.lt_size hx4
  have z2 : (hideAll hp [e]).objs.size = hp.objs.size := hideAll_size _ _
  have z3 : hp.objs.size < h4.objs.size := F3.ns.lt
  exact Nat.le_of_lt (Nat.lt_of_lt_of_le z3 dn)
theorem own_made (T : OwnTxt prog K mg x fld C) (F : FldOk fld) (Mo : L2.Mod K mg base) (hb : ∀ b o, base.get? b = some o → s.heap.get? b = some o) {v : Value} (hroom : A.depth + 1 < recursionLimit)
    (hq : ∀ h' tk e d, Made s.heap h' fld e C d v → R (.ok (.ret (.ref e))) { s with heap := h', toks := tk }) :
    codeAny (model prog w) A (.call (.ref C) ⟨[v], []⟩) R s := by
  obtain ⟨nm, qn, N, bs, bm, sn, sub, ab, col, dd, k0, k1, k2, k3, k5, hC, hbm⟩ := T.cls
  have X : K.In s.heap := fun a o z => hb a o (Mo.kin a o z)
  obtain ⟨fI, hfI, tI⟩ : ∃ fI, findIn K (.ref C) "__init__" = some (some (.ref fI)) ∧ typeIn K (.ref fI) = some (.type "function") := by
    obtain ⟨fI, _, _, _, _, _, _, _, _, _, _, _, _, _, _, _, _, _, _, _, _, _, _, _, _, _, _, _, _, _, _, _, _, e1, e2, _⟩ := T.fn
    exact ⟨fI, e1, e2⟩
  obtain ⟨hp, ge, dr, tk, os⟩ := s
  have kp : ∀ b o, hp.get? b = some o → ((hp.push (kdv_tup [v])).push (excO C hp.objs.size)).get? b = some o := fun b o z => Heap.get?_push_of_some _ (Heap.get?_push_of_some _ z)
  have hget : ((hp.push (kdv_tup [v])).push (excO C hp.objs.size)).get? (hp.objs.size + 1) = some (excO C hp.objs.size) := by heap_get
  have new : ∀ {h : Heap} {n : Nat}, h.objs.size ≤ n → h.get? n = none := fun {h n} hn => by
    cases z : h.get? n with
    | none => rfl
    | some o => exact absurd (Heap.lt_size z) (Nat.not_lt.mpr hn)
  have hnx : K.lookup (hp.objs.size + 1) = none := by
    cases z : K.lookup (hp.objs.size + 1) with
    | none => rfl
    | some o =>
      have y : hp.get? (hp.objs.size + 1) = some o := X _ _ z
      rw [new (Nat.le_succ _)] at y
      cases y
  have hbn : base.get? (hp.objs.size + 1) = none := by
    cases z : base.get? (hp.objs.size + 1) with
    | none => rfl
    | some o =>
      have y : hp.get? (hp.objs.size + 1) = some o := hb _ _ z
      rw [new (Nat.le_succ _)] at y
      cases y
  refine call_own PySem.F.excBase_ValueError (fun X => refsVE_contains X bm hbm) (X _ _ hC) (looks_findIn X hfI) (fun self => bind_fn X self tI) (one_fits v) ?_
  refine init_done (s := ⟨(hp.push (kdv_tup [v])).push (excO C hp.objs.size), ge, dr, tk, os⟩) T F Mo (fun b o z => kp b o (hb b o z)) hfI hget hnx hbn ?_ fun h' tk' dx t1 ⟨k', hx, dn, dne, hns⟩ => ?_
  · show A.depth + 1 < recursionLimit
    exact hroom
  · have old : ∀ b o, hp.get? b = some o → h'.get? b = some o := fun b o z => k' b o (Nat.ne_of_lt (Nat.lt_succ_of_lt (Heap.lt_size z))) (kp b o z)
    have z : hp.objs.size + 1 + 1 ≤ dx := by
      first
        | (simpa only [Heap.size_push] using dn)
        | exact dn
    exact ⟨rfl, hq h' tk' (hp.objs.size + 1) dx ⟨old, Nat.le_succ _, ⟨_, _, hx, rfl, rfl, rfl, rfl⟩, Nat.le_trans (Nat.le_trans (Nat.le_succ _) (Nat.le_succ _)) z, dne, hns⟩⟩
end
end BkX
end PySem

set_option Elab.async false
set_option linter.all false
set_option maxRecDepth 100000
/-! defs that raise own errors: what their text does, told by a mirror -/
namespace Bk
open PySem PySem.Spec PyProof.Rows L2
open PySem.BkX (OwnTxt FldOk)
theorem relO_one {v : V} {v' : Value} (r : RelV v v') (fld f : Str) : RelO (List.lookup f [(fld, v)]) (if f = fld then some v' else none) := by
  by_cases hw : f = fld
  · subst hw
    rw [if_pos rfl]
    have q : List.lookup f [(f, v)] = some v := by simp [List.lookup]
    rw [q]
    exact r
  · rw [if_neg hw]
    have qw : (f == fld) = false := by simpa using hw
    have q2 : List.lookup f [(fld, v)] = none := by simp [List.lookup, qw]
    rw [q2]
    trivial
section
variable {X : Cx} {C : Addr} {x fld : Str}
/-- x(e), x an own error -/
def tMkF (C : Addr) (fld : Str) (ta : TA) : L2.St → Hp → XK → Prop := fun σ H Q => ta σ H fun vs H1 => ∃ v, vs = [v] ∧ ∀ d, H1 d = none → Q (.ref C) (some d) (upd H1 d (.xd [(fld, v)]))
theorem pmk_fld {a : Expr} {ta : TA} {p pos : Pos} {k : Nat} (T : OwnTxt X.prog X.K X.mg x fld C) (F : FldOk fld) (hr : Room k X.A) (ha : PA X [a] ta) (hg : Gl X x) (hdb : (x == ("__debug__" : Str)) = false)
    (he : starEach (a :: []) X.env = (false, eval a X.env) :: starEach [] X.env) (hpl : (backTo pos (starEach [] X.env)).any (·.1) = false := by rfl) :
    PMk X (.Call (.Name x p) [a] [] pos) (tMkF C fld ta) := by
  intro pins s σ H Q I hq
  refine wpAny_Call_Name_kw (ld_glob I hg T.gC ?_ hdb)
  refine PySem.W.callWith_K (h₀ := X.base) I.ok.mod.kin T.kC (thn (ha.run pos pins s σ H _ I hq) fun us s1 hh => ?_) he hpl
  obtain ⟨vs, H1, J, r1, v, rfl, q1⟩ := hh
  refine ⟨J.kIn, ?_⟩
  cases r1 with
  | cons rv rn =>
    rename_i v' us'
    cases rn
    show wpAny _ _ (call (.ref C) [v']) _ _ _
    have bk := J.bk
    obtain ⟨hp, ge, dr, tk, os⟩ := s1
    refine wpAny_call (PySem.BkX.own_made T F J.mod bk (by have := hr.dp; omega) fun h' tk' e d M => ?_)
    show MkP X pins σ Q (.ref e) ⟨h', ge, dr, tk', os⟩
    obtain ⟨oe, fv, hoe, hc, hd, hdat, h1⟩ := M.obj
    have hns := M.ns
    obtain ⟨G', g1, g2⟩ := restrict h' fun b => decide (b ≠ e)
    have gk : ∀ b, b ≠ e → G'.get? b = h'.get? b := fun b hb => g1 b (decide_eq_true hb)
    have ge' : G'.get? e = none := g2 e (by simp)
    have old : ∀ b o, hp.get? b = some o → G'.get? b = some o := fun b o q => (gk b (Nat.ne_of_lt (Nat.lt_of_lt_of_le (Heap.lt_size q) M.new))).trans (M.keep b o q)
    have ob : ObjOk X.prog X.w (upd H1 d (.xd [(fld, v)])) G' d (.xd [(fld, v)]) := ⟨_, hns.at (fun o q => (gk d M.dne).trans q), fun f => relO_one rv fld f⟩
    have J2 : Inv X pins σ (upd H1 d (.xd [(fld, v)])) ⟨G', ge, dr, tk', os⟩ := J.laid (t' := tk') old M.dbig ob
    refine ⟨e, oe, fv, ⟨G', ge, dr, tk', os⟩, _, .ref C, some d, rfl, J2, fun b o q => ?_, ge', hoe, ⟨hc, hd⟩, hdat, h1, ?_, rfl, J.bare, raises_own T.exC T.tyC, q1 d (J.hok.fresh M.dbig)⟩
    · by_cases hb : b = e
      · have q' : G'.get? b = some o := q
        rw [hb, ge'] at q'
        cases q'
      · exact (gk b hb).symm.trans q
    · rw [upd_ne (Ne.symm M.dne)]
      exact J.hok.fresh M.new
end

/-! ### judgements -/
def clsOf (CB CG : Addr) : Bool → Addr
  | true => CG
  | false => CB
def fldOf : Bool → Str
  | true => "most"
  | false => "place"
/-- the error's dict: new, with its one field -/
def XOk (K : PySem.W.Frag) (P H' : Hp) (fld : Str) (dd : Addr) (d : PyData) : Prop := P dd = none ∧ ∃ v, H' dd = some (.xd [(fld, v)]) ∧ imm d = true ∧ Dp K H' v d
theorem XOk.sooner {K : PySem.W.Frag} {P P' H' : Hp} {fld : Str} {dd : Addr} {d : PyData} (h : XOk K P' H' fld dd d) (e : Same P P') : XOk K P H' fld dd d := ⟨e.free h.1, h.2⟩
def XGoes (K : PySem.W.Frag) (CB CG : Addr) (P : Hp) (D : Ends) (W : WX) : RX → Prop
  | .go G' => ∀ P' σ' H', Same P P' → Sd K P' G' σ' H' → D.nx σ' H'
  | .ret k => ∀ v H', Same P H' → VOk K P H' v k → D.rt v H'
  | .exc g d => ∀ dd σ' H', Same P H' → XOk K P H' (fldOf g) dd d → W (.ref (clsOf CB CG g)) (some dd) σ' H'
def XM (X : Cx) (W : WX) (CB CG : Addr) (st : Stmt) (m : MX) : Prop := ∀ G r, m G = some r → ∀ (P : Hp) (σ : L2.St) (H : Hp) (D : Ends), Sd X.K P G σ H → XGoes X.K CB CG P D W r → wS X st D σ H
def XMs (X : Cx) (W : WX) (CB CG : Addr) (st : List Stmt) (m : MX) : Prop := ∀ G r, m G = some r → ∀ (P : Hp) (σ : L2.St) (H : Hp) (D : Ends), Sd X.K P G σ H → XGoes X.K CB CG P D W r → wSs X st D σ H
/-- a promise by a mirror that may raise -/
def MXp (K : PySem.W.Frag) (CB CG : Addr) (f : List Vk → Option RK) : Sp := fun vs H Q E => ∃ a : {a : List Vk × RK // f a.1 = some a.2}, VsOk K H H vs a.1.1 ∧ match a.1.2 with
  | .ok k => ∀ v H', Same H H' → VOk K H H' v k → Q v H'
  | .exc g d => ∀ dd H', Same H H' → XOk K H H' (fldOf g) dd d → E (.ref (clsOf CB CG g)) (some dd) H'
structure DokX (P : Program) (w : World) (K : PySem.W.Frag) (mg : Str → Option Value) (base : Heap) (CB CG : Addr) (x : Str) (k : Nat) (ps : List Str) (f : List Vk → Option RK) : Prop where
  ex : ∃ fd, FnOk P w K mg base (L2.CX P w) k (He.ga K x) fd ps (MXp K CB CG f) ∧ Binds K fd ps []
  kp : PySem.W.keepIn K (.ref (He.ga K x)) = true
  gl : mg x = some (.ref (He.ga K x))
/-- the two errors -/
structure XCls (P : Program) (K : PySem.W.Frag) (mg : Str → Option Value) (CB CG : Addr) : Prop where
  bad : OwnTxt P K mg "BadBook" "place" CB
  great : OwnTxt P K mg "TooGreat" "most" CG
section
variable {X : Cx} {W : WX} {CB CG : Addr} {st : Stmt} {sts body els : List Stmt} {a b : MX} {m : MS} {mv : MV} {t : MT} {ml : ML} {e c : Expr} {es : List Expr} {pos p p2 : Pos} {k n : Nat}
theorem ps_nox {ts : TS} (h : PS X.nox st ts) : PS X st ts := ⟨fun pins s σ H D I hw => wpAny_mono (h.run pins s σ H D (I.wish _) hw) (fun _ _ q => SP.unwish q) fun _ _ z => z.elim⟩
theorem wS_nox {D : Ends} {σ : L2.St} {H : Hp} (h : wS X.nox st D σ H) : wS X st D σ H := to_wS (ps_nox ps_w) h
theorem wE_nox {Q : VK} {σ : L2.St} {H : Hp} (h : wE X.nox e σ H Q) : wE X e σ H Q := to_wE (PE.nox pe_w) h
theorem wT_nox {Q : Bool → Hp → Prop} {σ : L2.St} {H : Hp} (h : wT X.nox e σ H Q) : wT X e σ H Q := to_wT (PT.nox pt_w) h
theorem EM.un (h : EM X.nox e mv) : EM X e mv := fun G k hk P σ H Q s q => wE_nox (h G k hk P σ H Q s q)
theorem TM.un (h : TM X.nox e t) : TM X e t := fun G k hk P σ H Q s q => wT_nox (h G k hk P σ H Q s q)
theorem AM.un (h : AM X.nox es ml) : AM X es ml := fun G ks hk => by
  obtain ⟨h1, h2⟩ := h G ks hk
  refine ⟨fun P σ H Q s q pos pins st I => ?_, h2⟩
  exact wpAny_mono (h1 P σ H Q s q pos pins st (I.wish _)) (fun us s' ⟨vs, H', I', r, q'⟩ => ⟨vs, H', I'.unwish, r, q'⟩) fun _ _ z => z.elim
theorem xm_lift (h : SM X.nox st m) : XM X W CB CG st (xLift m) := fun G r hr P σ H D s g => by
  obtain ⟨q, h1, h2⟩ := bnd_some hr
  refine wS_nox (h G q h1 (fun G' => q = .go G') (fun k => q = .ret k) (fun G' e => e) (fun k e => e) P σ H D s ⟨fun P' G' σ' H' e n s' => ?_, fun v H' k n e o => ?_⟩)
  · subst n
    cases h2
    exact g P' σ' H' e s'
  · subst n
    cases h2
    exact g v H' e o
theorem xms_nil : XMs X W CB CG [] xNil := fun G r hr P σ H D s g => by
  cases hr
  exact to_wSs pss_nil (g P σ H (Same.refl P) s)
theorem xms_one (h : XM X W CB CG st a) : XMs X W CB CG [st] a := fun G r hr P σ H D s g => to_wSs (pss_one ps_w) (h G r hr P σ H D s g)
theorem xms_cons (h1 : XM X W CB CG st a) (h2 : XMs X W CB CG sts b) : XMs X W CB CG (st :: sts) (xCons a b) := fun G r hr P σ H D s g => by
  obtain ⟨q, q1, q2⟩ := bnd_some hr
  refine to_wSs (pss_cons ps_w pss_w) (h1 G q q1 P σ H { D with nx := wSs X sts D } s ?_)
  cases q with
  | go G1 =>
    intro P' σ' H' e s'
    refine h2 G1 r q2 P' σ' H' D s' ?_
    cases r with
    | go G2 => exact fun P2 σ2 H2 e2 s2 => g P2 σ2 H2 (e.trans e2) s2
    | ret k => exact fun v H2 e2 o => g v H2 (e.trans e2) (o.sooner e)
    | exc gg d => exact fun dd σ2 H2 e2 o => g dd σ2 H2 (e.trans e2) (o.sooner e)
  | ret k =>
    cases q2
    exact g
  | exc gg d =>
    cases q2
    exact g
theorem xm_if (hc : TM X.nox c t) (h1 : XMs X W CB CG body a) (h2 : XMs X W CB CG els b) : XM X W CB CG (.If c body els pos) (xIf t a b) := fun G r hr P σ H D s g => by
  obtain ⟨z, hz, q⟩ := bnd_some hr
  clear hr
  refine to_wS (ps_if pt_w pss_w pss_w) (hc.un G z hz P σ H _ s fun H1 e1 => ?_)
  cases z with
  | true => exact iteT (h1 G r q P σ H1 D (s.later e1) g)
  | false => exact iteF (h2 G r q P σ H1 D (s.later e1) g)
theorem xm_raise (gg : Bool) {x : Str} (T : OwnTxt X.prog X.K X.mg x (fldOf gg) (clsOf CB CG gg)) (hr : Room n X.A) (tk : Takes X W) (he : EM X.nox e mv) (hg : Gl X x) (hdb : (x == ("__debug__" : Str)) = false)
    (hs : starEach (e :: []) X.env = (false, eval e X.env) :: starEach [] X.env := by rfl) (hc : X.calm = true := by rfl) (hpl : (backTo pos (starEach [] X.env)).any (·.1) = false := by rfl) :
    XM X W CB CG (.Raise (some (.Call (.Name x p) [e] [] pos)) none p2) (xRaise gg mv) := fun G r h P σ H D s g => by
  obtain ⟨k, h1, h2⟩ := bnd_some h
  split at h2
  · cases h2
    refine to_wS (ps_raise hc tk (pmk_fld T (by cases gg <;> first | exact .inl rfl | exact .inr rfl) hr (pa_cons pe_w pa_nil hs) hg hdb hs hpl)) (he.un G _ h1 P σ H _ s fun v H1 e1 o => ⟨v, rfl, fun d hd => ?_⟩)
    exact g d σ _ ((s.same.trans e1).trans (same_upd hd)) ⟨(s.same.trans e1).free hd, v, upd_same, o.1, Dp.same (same_upd hd) _ _ o.2⟩
  · cases h2
theorem xm_raise_BadBook (U : XCls X.prog X.K X.mg CB CG) (hr : Room n X.A) (tk : Takes X W) (he : EM X.nox e mv) (hg : Gl X "BadBook" := by rfl)
    (hs : starEach (e :: []) X.env = (false, eval e X.env) :: starEach [] X.env := by rfl) (hc : X.calm = true := by rfl) (hpl : (backTo pos (starEach [] X.env)).any (·.1) = false := by rfl) :
    XM X W CB CG (.Raise (some (.Call (.Name "BadBook" p) [e] [] pos)) none p2) (xRaise false mv) := xm_raise false U.bad hr tk he hg (by decide) hs hc hpl
theorem xm_raise_TooGreat (U : XCls X.prog X.K X.mg CB CG) (hr : Room n X.A) (tk : Takes X W) (he : EM X.nox e mv) (hg : Gl X "TooGreat" := by rfl)
    (hs : starEach (e :: []) X.env = (false, eval e X.env) :: starEach [] X.env := by rfl) (hc : X.calm = true := by rfl) (hpl : (backTo pos (starEach [] X.env)).any (·.1) = false := by rfl) :
    XM X W CB CG (.Raise (some (.Call (.Name "TooGreat" p) [e] [] pos)) none p2) (xRaise true mv) := xm_raise true U.great hr tk he hg (by decide) hs hc hpl
/-- the call itself -/
theorem call_x {x : Str} {ps : List Str} {f : List Vk → Option RK} (F : DokX X.prog X.w X.K X.mg X.base CB CG x k ps f) (hr : Room n X.A) (tk : Takes X W) (hA : AM X.nox (e :: es) ml) (hkn : Nat.ble k n = true) (hg : Gl X x) (hdb : (x == ("__debug__" : Str)) = false)
    (he : starEach (e :: es) X.env = (false, eval e X.env) :: starEach es X.env) (hpl : (backTo pos (starEach es X.env)).any (·.1) = false) {G : Cn} {ks : List Vk} {q : RK} (h1 : ml G = some ks) (h2 : f ks = some q)
    {P : Hp} {σ : L2.St} {H : Hp} {Q : VK} (s : Sd X.K P G σ H) (hok : ∀ k' v H', q = .ok k' → Same H H' → VOk X.K H H' v k' → Q v H') (hex : ∀ gg d dd H', q = .exc gg d → Same H H' → XOk X.K H H' (fldOf gg) dd d → W (.ref (clsOf CB CG gg)) (some dd) σ H') :
    wE X (.Call (.Name x p) (e :: es) [] pos) σ H Q := by
  obtain ⟨fd, F1, hb⟩ := F.ex
  obtain ⟨a1, a2⟩ := hA.un G ks h1
  refine to_wE (pe_callS F1 (hr.mono (Nat.le_of_ble_eq_true hkn)) hg F.gl F.kp hb (fun σ => passAt tk σ) pa_w hdb he hpl) (a1 P σ H _ s fun vs H1 e1 o => ?_)
  refine ⟨⟨(ks, q), h2⟩, o.here a2, ?_⟩
  cases q with
  | ok k' => exact fun v H2 e2 o2 => hok k' v H2 rfl (e1.trans e2) (o2.sooner e1)
  | exc gg d => exact fun dd H2 e2 o2 => hex gg d dd H2 rfl (e1.trans e2) (o2.sooner e1)
theorem xm_expr {x : Str} {ps : List Str} {f : List Vk → Option RK} (F : DokX X.prog X.w X.K X.mg X.base CB CG x k ps f) (hr : Room n X.A) (tk : Takes X W) (hA : AM X.nox (e :: es) ml) (hkn : Nat.ble k n = true := by rfl) (hg : Gl X x := by rfl) (hdb : (x == ("__debug__" : Str)) = false := by decide)
    (he : starEach (e :: es) X.env = (false, eval e X.env) :: starEach es X.env := by rfl) (hpl : (backTo pos (starEach es X.env)).any (·.1) = false := by rfl) (hs : swapsWith (.Call (.Name x p) (e :: es) [] pos) none p2.line X.env = pure false := by rfl) :
    XM X W CB CG (.Expr (.Call (.Name x p) (e :: es) [] pos) p2) (xExpr f ml) := fun G r h P σ H D s g => by
  obtain ⟨ks, h1, h2⟩ := bnd_some h
  obtain ⟨q, h3, h4⟩ := bnd_some h2
  refine to_wS (ps_expr pe_w hs) (call_x F hr tk hA hkn hg hdb he hpl h1 h3 s (fun k' v H' e e1 o => ?_) fun gg d dd H' e e1 o => ?_)
  · subst e
    cases h4
    exact g P σ H' (Same.refl P) (s.later e1)
  · subst e
    cases h4
    exact g dd σ H' (s.same.trans e1) (o.sooner s.same)
theorem xm_ret {x : Str} {ps : List Str} {f : List Vk → Option RK} (F : DokX X.prog X.w X.K X.mg X.base CB CG x k ps f) (hr : Room n X.A) (tk : Takes X W) (hA : AM X.nox (e :: es) ml) (hkn : Nat.ble k n = true := by rfl) (hg : Gl X x := by rfl) (hdb : (x == ("__debug__" : Str)) = false := by decide)
    (he : starEach (e :: es) X.env = (false, eval e X.env) :: starEach es X.env := by rfl) (hpl : (backTo pos (starEach es X.env)).any (·.1) = false := by rfl) :
    XM X W CB CG (.Return (some (.Call (.Name x p) (e :: es) [] pos)) p2) (xRet f ml) := fun G r h P σ H D s g => by
  obtain ⟨ks, h1, h2⟩ := bnd_some h
  obtain ⟨q, h3, h4⟩ := bnd_some h2
  refine to_wS (ps_ret pe_w) (call_x F hr tk hA hkn hg hdb he hpl h1 h3 s (fun k' v H' e e1 o => ?_) fun gg d dd H' e e1 o => ?_)
  · subst e
    cases h4
    exact g v H' (s.same.trans e1) (o.sooner s.same)
  · subst e
    cases h4
    exact g dd σ H' (s.same.trans e1) (o.sooner s.same)
end
theorem okX {P : Program} {w : World} {K : PySem.W.Frag} {mg : Str → Option Value} {base : Heap} {CB CG : Addr} {x : Str} {st : Stmt} {N ps : List Str} {n nn np : Nat} {m : MX} (T : Txt K mg x st) (S : FnScope N ps (defScope st))
    (hb : ∀ (kV doc pm : Value) (an : Option Addr) (cdv ct : Value) (us : List Value), us.length = ps.length → bindArgs (PySem.W.fnOf x x (defArgs st) (defBody st) (defScope st) .none kV doc pm an cdv ct) ⟨us, []⟩ = pure (ps.zip us))
    (hN : N.length = nn) (hps : ps.length = np)
    (hbody : ∀ (f : Addr) (cdv : Value) (A : Around) (outer : List Env) (s : Shared) (H : Hp) (E : XK), Room n (A.deeper (envOfC x (defScope st) s.heap.objs.size f cdv)) →
      Takes (cxOf (L2.CX P w) P w K mg base N x (defScope st) f cdv A outer s H E) (fun cls d _ H => E cls d H) →
      XMs (cxOf (L2.CX P w) P w K mg base N x (defScope st) f cdv A outer s H E) (fun cls d _ H => E cls d H) CB CG (defBody st) m) : DokX P w K mg base CB CG x (n + 1) ps (defX np nn m) := by
  obtain ⟨fd, F⟩ := T.F
  refine ⟨⟨fd, F.ok S (fun vs H Q E h => ?_) (fun cdv A outer s H vs Q E hr h => ?_), F.bindsN hb⟩, F.kp, T.gl⟩
  · obtain ⟨⟨⟨ks, r⟩, h1⟩, h2, _⟩ := h
    obtain ⟨h3, _⟩ := grd_some h1
    have := h2.length
    rw [this, hps]
    exact Nat.eq_of_beq_eq_true h3
  · obtain ⟨⟨⟨ks, r⟩, h1⟩, h2, h3⟩ := h
    obtain ⟨h4, h5⟩ := grd_some h1
    obtain ⟨q, h6, h7⟩ := bnd_some h5
    refine ⟨_, pss_w, ?_⟩
    have s0 := sd_start (N := N) h2
    have s1 : Sd K H (ks.map Vk.kd ++ List.replicate (nn - ks.length) .no) (L2.start N vs) H := by
      rw [← hN]
      exact s0
    refine hbody _ cdv A outer s H E hr (takes_of rfl rfl rfl rfl) _ q h6 H (L2.start N vs) H _ s1 ?_
    cases q with
    | go G' =>
      cases h7
      intro P' σ' H' e s'
      exact h3 .non H' (e.trans s'.same) ⟨imm_none, .non⟩
    | ret k =>
      cases h7
      exact fun v H' e o => h3 v H' e o
    | exc gg d =>
      cases h7
      exact fun dd σ' H' e o => h3 dd H' e o
end Bk

set_option Elab.async false
set_option linter.all false
set_option maxRecDepth 100000
namespace Bk
open PySem PySem.Spec PyProof.Rows L2
section
variable {P : Program} {w : World} {K : PySem.W.Frag} {mg : Str → Option Value} {base : Heap} {CB CG : Addr}
def m_check_size : List Vk → Option RK := defX 2 2 (xCons (xIf (t2 gtT (mVar 0) (mK (.im (.int 60)))) (xRaise true (mK (.im (.int 60)))) (xNil)) (xIf (t2 gtT (mVar 1) (mK (.im (.int 12)))) (xRaise true (mK (.im (.int 12)))) (xNil)))
theorem sc_check_size : FnScope ["shapes", "places"] ["shapes", "places"] (defScope s_check_size) := ⟨rfl, rfl, rfl, by decide +kernel, rfl, by decide +kernel, by decide +kernel⟩
theorem ok_check_size (T : TxA K mg) (U : XCls P K mg CB CG) : DokX P w K mg base CB CG "check_size" 1 ["shapes", "places"] m_check_size := by
  refine okX T.t_check_size sc_check_size (fun _ _ _ _ _ _ us hl => match us, hl with | [_, _], _ => rfl) rfl rfl ?_
  intro f cdv A outer s H E hr tk
  exact xms_cons (xm_if (tm_gt (em_var 0) (em_glob T.c_MOST_SHAPES)) (xms_one (xm_raise_TooGreat U hr tk (em_glob T.c_MOST_SHAPES))) (xms_nil)) (xms_one (xm_if (tm_gt (em_var 1) (em_glob T.c_MOST_PLACES)) (xms_one (xm_raise_TooGreat U hr tk (em_glob T.c_MOST_PLACES))) (xms_nil)))
def m_check_twice : List Vk → Option RK := defX 1 2 (xCons (xLift (sSet 1 (mCall m_into_count (aCons (mVar 0) (aCons (mVar 0) (aNil)))))) (xCons (xExpr m_check_size (aCons (mVar 1) (aCons (m2 mulV (mCall m_greatest (aCons (mVar 0) (aNil))) (mCall m_greatest (aCons (mVar 0) (aNil)))) (aNil)))) (xIf (t2 gtT (mCall m_fillings_so (aCons (mVar 0) (aCons (mVar 1) (aNil)))) (mK (.im (.int 5000)))) (xRaise true (mK (.im (.int 5000)))) (xNil))))
theorem sc_check_twice : FnScope ["holder", "shapes"] ["holder"] (defScope s_check_twice) := ⟨rfl, rfl, rfl, by decide +kernel, rfl, by decide +kernel, by decide +kernel⟩
theorem ok_check_twice (T : TxA K mg) (U : XCls P K mg CB CG) : DokX P w K mg base CB CG "check_twice" 3 ["holder"] m_check_twice := by
  refine okX T.t_check_twice sc_check_twice (fun _ _ _ _ _ _ us hl => match us, hl with | [_], _ => rfl) rfl rfl ?_
  intro f cdv A outer s H E hr tk
  exact xms_cons (xm_lift (sm_set 1 (em_call (ok_into_count T) hr (am_cons (em_var 0) (am_cons (em_var 0) (am_nil)))) sc_check_twice.nd)) (xms_cons (xm_expr (ok_check_size T U) hr tk (am_cons (em_var 1) (am_cons (em_mul (em_call (ok_greatest T) hr (am_cons (em_var 0) (am_nil))) (em_call (ok_greatest T) hr (am_cons (em_var 0) (am_nil)))) (am_nil)))) (xms_one (xm_if (tm_gt (em_call (ok_fillings_so T) hr (am_cons (em_var 0) (am_cons (em_var 1) (am_nil)))) (em_glob T.c_MOST_THRICE)) (xms_one (xm_raise_TooGreat U hr tk (em_glob T.c_MOST_THRICE))) (xms_nil))))
def m_check_book : List Vk → Option RK := defX 2 3 (xCons (xIf (tOr (notT (t1 vT (m1 (isiV (false, false, false, false, true)) (mVar 1)))) (notT (t2 eqT (m1 lenV (mVar 1)) (mK (.im (.int 2)))))) (xRaise false (mTup (aNil))) (xNil)) (xCons (xIf (notT (t1 vT (mCall m_is_from (aCons (m2 ixV (mVar 1) (mK (.im (.int 0)))) (aCons (mK (.im (.int 0))) (aCons (m2 subV (m1 lenV (mVar 0)) (mK (.im (.int 1)))) (aNil))))))) (xRaise false (mTup (aCons (mK (.im (.int 0))) (aNil)))) (xNil)) (xCons (xIf (notT (t1 vT (mCall m_is_table (aCons (mCall m_into_sizes (aCons (mVar 0) (aCons (mVar 0) (aNil)))) (aCons (mVar 0) (aCons (m2 ixV (mVar 1) (mK (.im (.int 1)))) (aNil))))))) (xRaise false (mTup (aCons (mK (.im (.int 1))) (aNil)))) (xNil)) (xCons (xLift (sSet 2 (mCall m_broken_law (aCons (mVar 0) (aCons (m2 ixV (mVar 1) (mK (.im (.int 0)))) (aCons (m2 ixV (mVar 1) (mK (.im (.int 1)))) (aNil))))))) (xCons (xIf (notT (t1 isN (mVar 2))) (xRaise false (mVar 2)) (xNil)) (xLift (sRetV 1)))))))
theorem sc_check_book : FnScope ["holder", "book", "broken"] ["holder", "book"] (defScope s_check_book) := ⟨rfl, rfl, rfl, by decide +kernel, rfl, by decide +kernel, by decide +kernel⟩
theorem ok_check_book (T : TxA K mg) (U : XCls P K mg CB CG) : DokX P w K mg base CB CG "check_book" 7 ["holder", "book"] m_check_book := by
  refine okX T.t_check_book sc_check_book (fun _ _ _ _ _ _ us hl => match us, hl with | [_, _], _ => rfl) rfl rfl ?_
  intro f cdv A outer s H E hr tk
  exact xms_cons (xm_if (tm_or2 (tm_not (tm_val (em_isTup (em_var 1) T.n_isinstance T.n_tuple))) (tm_ne hr.units (em_len (em_var 1) T.n_len) (em_int))) (xms_one (xm_raise_BadBook U hr tk (em_tup (am_nil)))) (xms_nil)) (xms_cons (xm_if (tm_not (tm_val (em_call (ok_is_from T) hr (am_cons (em_ix (em_var 1) (em_int)) (am_cons (em_int) (am_cons (em_sub (em_len (em_var 0) T.n_len) (em_int)) (am_nil))))))) (xms_one (xm_raise_BadBook U hr tk (em_tup (am_cons (em_int) (am_nil))))) (xms_nil)) (xms_cons (xm_if (tm_not (tm_val (em_call (ok_is_table T) hr (am_cons (em_call (ok_into_sizes T) hr (am_cons (em_var 0) (am_cons (em_var 0) (am_nil)))) (am_cons (em_var 0) (am_cons (em_ix (em_var 1) (em_int)) (am_nil))))))) (xms_one (xm_raise_BadBook U hr tk (em_tup (am_cons (em_int) (am_nil))))) (xms_nil)) (xms_cons (xm_lift (sm_set 2 (em_call (ok_broken_law T) hr (am_cons (em_var 0) (am_cons (em_ix (em_var 1) (em_int)) (am_cons (em_ix (em_var 1) (em_int)) (am_nil))))) sc_check_book.nd)) (xms_cons (xm_if (tm_notN (em_var 2)) (xms_one (xm_raise_BadBook U hr tk (em_var 2))) (xms_nil)) (xms_one (xm_lift (sm_retV 1)))))))
def m_need_book : List Vk → Option RK := defX 2 2 (xCons (xExpr m_check_twice (aCons (mCall m_need_holder (aCons (mVar 0) (aNil))) (aNil))) (xRet m_check_book (aCons (mVar 0) (aCons (mVar 1) (aNil)))))
theorem sc_need_book : FnScope ["holder", "book"] ["holder", "book"] (defScope s_need_book) := ⟨rfl, rfl, rfl, by decide +kernel, rfl, by decide +kernel, by decide +kernel⟩
theorem ok_need_book (T : TxA K mg) (U : XCls P K mg CB CG) : DokX P w K mg base CB CG "need_book" 8 ["holder", "book"] m_need_book := by
  refine okX T.t_need_book sc_need_book (fun _ _ _ _ _ _ us hl => match us, hl with | [_, _], _ => rfl) rfl rfl ?_
  intro f cdv A outer s H E hr tk
  exact xms_cons (xm_expr (ok_check_twice T U) hr tk (am_cons (em_call (ok_need_holder T) hr (am_cons (em_var 0) (am_nil))) (am_nil))) (xms_one (xm_ret (ok_check_book T U) hr tk (am_cons (em_var 0) (am_cons (em_var 1) (am_nil)))))
def m_all_books : List Vk → Option RK := defX 1 5 (xCons (xExpr m_check_twice (aCons (mCall m_need_holder (aCons (mVar 0) (aNil))) (aNil))) (xCons (xLift (sSet 1 (mCall m_into_sizes (aCons (mVar 0) (aCons (mVar 0) (aNil)))))) (xCons (xIf (t2 gtT (m2 mulV (m1 lenV (mVar 0)) (mCall m_programs_so (aCons (mVar 1) (aCons (mVar 0) (aNil))))) (mK (.im (.int 400)))) (xRaise true (mK (.im (.int 400)))) (xNil)) (xCons (xLift (sSet 2 (mLst (aNil)))) (xCons (xLift (sFor (.one 3) (iRange (m1 lenV (mVar 0))) (sFor (.one 4) (iVal (mCall m_tables_so (aCons (mVar 1) (aCons (mVar 0) (aNil))))) (sIf (t1 isN (mCall m_broken_law (aCons (mVar 0) (aCons (mVar 3) (aCons (mVar 4) (aNil)))))) (sApp 2 (mTup (aCons (mVar 3) (aCons (mVar 4) (aNil))))) (sNil))))) (xLift (sRet (m1 tupV (mVar 2)))))))))
theorem sc_all_books : FnScope ["holder", "sizes", "found", "unit", "flat"] ["holder"] (defScope s_all_books) := ⟨rfl, rfl, rfl, by decide +kernel, rfl, by decide +kernel, by decide +kernel⟩
theorem ok_all_books (T : TxA K mg) (U : XCls P K mg CB CG) : DokX P w K mg base CB CG "all_books" 7 ["holder"] m_all_books := by
  refine okX T.t_all_books sc_all_books (fun _ _ _ _ _ _ us hl => match us, hl with | [_], _ => rfl) rfl rfl ?_
  intro f cdv A outer s H E hr tk
  exact xms_cons (xm_expr (ok_check_twice T U) hr tk (am_cons (em_call (ok_need_holder T) hr (am_cons (em_var 0) (am_nil))) (am_nil))) (xms_cons (xm_lift (sm_set 1 (em_call (ok_into_sizes T) hr (am_cons (em_var 0) (am_cons (em_var 0) (am_nil)))) sc_all_books.nd)) (xms_cons (xm_if (tm_gt (em_mul (em_len (em_var 0) T.n_len) (em_call (ok_programs_so T) hr (am_cons (em_var 1) (am_cons (em_var 0) (am_nil))))) (em_glob T.c_MOST_LISTED)) (xms_one (xm_raise_TooGreat U hr tk (em_glob T.c_MOST_LISTED))) (xms_nil)) (xms_cons (xm_lift (sm_set 2 (em_lst (am_nil)) sc_all_books.nd)) (xms_cons (xm_lift (sm_for (T := (.one 3)) (im_range (em_len (em_var 0) T.n_len) T.n_range) (gk_one 3 sc_all_books.nd rfl) (sms_one (sm_for (T := (.one 4)) (im_val (em_call (ok_tables_so T) hr (am_cons (em_var 1) (am_cons (em_var 0) (am_nil))))) (gk_one 4 sc_all_books.nd rfl) (sms_one (sm_if (tm_isN (em_call (ok_broken_law T) hr (am_cons (em_var 0) (am_cons (em_var 3) (am_cons (em_var 4) (am_nil)))))) (sms_one (sm_app 2 (em_tup (am_cons (em_var 3) (am_cons (em_var 4) (am_nil)))))) (sms_nil))))))) (xms_one (xm_lift (sm_ret (em_tuple (em_var 2) T.n_tuple))))))))
end
end Bk

set_option Elab.async false
set_option linter.all false
set_option maxRecDepth 100000
/-! several except clauses, each with a name -/
namespace Bk
open PySem PySem.Spec PyProof.Rows L2
/-- what the clauses wish, one behind another; i: the slot of the clause's name -/
def wNamed (K : PySem.W.Frag) (Wo : WX) (D : Ends) : List (Value × Nat × (Addr → Value → Option Addr → TS)) → WX
  | [] => Wo
  | (c, i, ts) :: r => fun cc dq σ H => ∃ b, PySem.W.exmOne K cc c = some b ∧
      (b = true → ∀ ea, H ea = none → ts ea cc dq { nx := fun σz Hz => D.nx (σz.set i none) Hz, rt := D.rt, bk := fun σz Hz => D.bk (σz.set i none) Hz, ct := fun σz Hz => D.ct (σz.set i none) Hz } (σ.set i (some (.ref ea))) H) ∧ (b = false → wNamed K Wo D r cc dq σ H)
inductive Clauses (X : Cx) : List ExceptHandler → List (Value × Nat × (Addr → Value → Option Addr → TS)) → Prop
  | nil : Clauses X [] []
  | cons {x n : Str} {c : Value} {i : Nat} {ts : Addr → Value → Option Addr → TS} {b₀ : Stmt} {suite : List Stmt} {np pos' : Pos} {hds : List ExceptHandler} {l : List (Value × Nat × (Addr → Value → Option Addr → TS))} (hc : Names X x c) (hi : X.N[i]? = some n) (hln : X.env.kindOf n = some .local)
      (hsu : ∀ (ea : Addr) (oe : Obj) (cc : Value) (dq : Option Addr) (pn : List (Addr × Obj)), Zc cc dq oe → (∃ vs, oe.data = .fields vs) → PSs (X.suite ea ((ea, oe) :: pn)) (b₀ :: suite) (ts ea cc dq)) (r : Clauses X hds l) :
      Clauses X (.ExceptHandler (some (.Name x np)) (some n) (b₀ :: suite) pos' :: hds) ((c, i, ts) :: l)
section
variable {X : Cx} {body : List Stmt} {hd₀ : ExceptHandler} {hds : List ExceptHandler} {l : List (Value × Nat × (Addr → Value → Option Addr → TS))} {pos : Pos} {tb : WX → TS} {Wo : WX}
theorem ps_try_named (hst : X.stack = X.env :: X.outer) (hf : X.env.frame = some X.env.locals) (hN : X.N.Nodup) (tk : Takes X Wo)
    (hb : ∀ (W : WX) (pn : List (Addr × Obj)) (xe : Value → Shared → Prop), Takes (X.tr pn xe) W → PassesOwn (model X.prog X.w) X.A X.env xe → PSs (X.tr pn xe) body (tb W))
    (hh : Clauses X (hd₀ :: hds) l) : PS X (.Try body (hd₀ :: hds) [] [] pos) (fun D σ H => tb (wNamed X.K Wo D l) D σ H) := by
  refine ⟨fun pins s σ H D I hw => ?_⟩
  have okx := I.ok
  have frx : X.A.frames = some (X.env :: X.outer) := by rw [okx.frames, hst]
  refine wpAny_Try_except ?_
  refine wpAny_mono ((hb (wNamed X.K Wo D l) (X.pn ++ pins) (fun er s₁ => wpAny (model X.prog X.w) X.A (noteFrame er X.env) (fun _ s₂ => wpAny (model X.prog X.w) X.A (setFlight er none) (fun _ s₃ =>
    wpAny (model X.prog X.w) X.A (handleBy er X.env (hd₀ :: hds)) (SP X pins D) X.xe s₃) X.xe s₂) X.xe s₁) (fun u sz xx => ?_) PassesOwn.looking).run [] s σ H D (I.toTry _) hw) (fun fl s1 hsp => ?_) (fun er s1 he => he)
  · obtain ⟨ea, Bh, sq, pz, σz, Hz, cc, dq, rfl, Jt, n1, u1, sk, a1, o1, g1, wq⟩ := xx
    have Jx : Inv X pins σz Hz sq := Jt.ofTry okx
    have skx : Sky Bh (X.env :: X.outer) ea (Zc cc dq) X.env.locals sz.heap := by rw [← hst]; exact sk
    show wpAny (model X.prog X.w) X.A (noteFrame (.ref ea) X.env) _ _ _
    refine Sky.land Zc.steady frx hf skx fun h3 f3 u3 => ?_
    have J3 : Inv X pins σz Hz { sz with heap := h3 } := Jx.landed n1 f3.1 (u1.trans u3) o1 g1
    obtain ⟨oe3, vs3, q3, z3, d3⟩ := f3.there
    have nofr : ∀ {h : Heap} {o : Obj} {vs : Array Value}, h.FunFrames Bh (X.env :: X.outer) → h.get? ea = some o → o.data = .fields vs → ea ∉ frs (X.env :: X.outer) := fun {h o vs} ff ey dy hm => by
      obtain ⟨_, oz, ez, nz⟩ := ff.mem hm
      rw [ey] at ez
      cases ez
      exact nz _ dy
    have nfx := nofr f3.2.2.1 q3 d3
    have nL : ea ≠ X.env.locals := fun y => nfx (List.mem_filterMap.mpr ⟨X.env, List.mem_cons_self, by rw [hf, y]⟩)
    have nF : ea ∉ X.fs := fun hm => by
      obtain ⟨ev, hev, y⟩ := List.mem_filterMap.mp hm
      exact nfx (List.mem_filterMap.mpr ⟨ev, List.mem_cons_of_mem _ hev, y⟩)
    have S3 := J3.suite q3 d3 a1 nL nF
    have go : ∀ {hz : List ExceptHandler} {lz : List (Value × Nat × (Addr → Value → Option Addr → TS))}, Clauses X hz lz → wNamed X.K Wo D lz cc dq σz Hz →
        wpAny (model X.prog X.w) X.A (handleBy (.ref ea) X.env hz) (SP X pins D) X.xe { sz with heap := h3 } := by
      intro hz lz hk
      induction hk with
      | nil =>
        intro wz
        refine wpAny_handleBy_nil ?_
        obtain ⟨k1, k2, k3, oe, vs, Tx, oT, tsx, hex, hzx, hdx, hx1, hrx⟩ := id f3
        unfold PySem.passOn
        refine wpAny_bind (wpAny_field hex hdx hx1 ?_)
        rw [if_neg (show ¬ ((Value.ref Tx == Value.none) = true) from by simp)]
        have out : wpAny (model X.prog X.w) X.A (setFlight (.ref ea) X.env.frame) (fun _ s4 => wpAny (model X.prog X.w) X.A (throw (.ref ea) : Sem Flow) (SP X pins D) X.xe s4) X.xe { sz with heap := h3 } := by
          rw [hf]
          refine HandSPX.setFlight_upZ f3 fun h4 y4 u4 => wpAny_throw (tk _ _ ?_)
          exact ⟨ea, Bh, sq, pins, σz, Hz, cc, dq, rfl, Jx, n1, (u1.trans u3).trans u4, .inr (.inr (by rw [hst]; exact y4)), a1, o1, g1, wz⟩
        first
          | exact wpAny_bind (wpAny_pure (wpAny_bind out))
          | exact wpAny_bind out
      | @cons x n c i ts b₀ suite np pos' hds2 l2 hc hi hln hsu r ih =>
        intro wz
        have hloc : Loc X.env.scope n := .inl hln
        obtain ⟨b, hb1, yes, no⟩ := wz
        refine wpAny_handleBy_cons (codeAny_handlers_test ?_) (by intro y; cases y)
        have LT : PySem.W.Looks (model X.prog X.w) h3 (typeOf (.ref ea)) cc := fun A Q E s k y => wpAny_typeOf_ref (k _ _ q3) (by rw [z3.1]; exact y)
        have LM := PySem.W.exm_one (M := model X.prog X.w) (J3.kIn) LT hb1
        have named : ∀ {Q : Value → Shared → Prop} {E : Value → Shared → Prop}, Q c { sz with heap := h3 } → wpAny (model X.prog X.w) (X.A.mark (some (.ref ea))) (eval (.Name x np) X.env) Q E { sz with heap := h3 } := fun {Q E} y => by
          obtain ⟨hg, hdb, hm | ⟨hm, hv, hnn⟩⟩ := hc
          · exact ld_glob (X := X.suite ea ((ea, oe3) :: (X.pn ++ pins))) S3 hg hm y hdb
          · exact ld_blt (X := X.suite ea ((ea, oe3) :: (X.pn ++ pins))) S3 hg hm hv y hnn hdb
        refine named (LM.here ?_)
        cases b with
        | true =>
          refine codeAny_handlers_suite_as ?_
          refine HandSPX.lands_againZ f3 fun h4 f4 u4 => ?_
          have J4 : Inv X pins σz Hz { sz with heap := h4 } := Jx.landed n1 f4.1 ((u1.trans u3).trans u4) o1 g1
          obtain ⟨oe4, vs4, q4, z4, d4⟩ := f4.there
          have S4 := J4.suite q4 d4 a1 nL nF
          refine store_ok (X := X.suite ea ((ea, oe4) :: (X.pn ++ pins))) (v := .ref ea) S4 hN hi hloc rfl (fun s5 S5 => ?_) (.inr hln)
          refine wpAny_mono ((hsu ea oe4 cc dq (X.pn ++ pins) z4 ⟨_, d4⟩).run [] s5 _ Hz _ S5 (yes rfl ea a1)) (fun fl s6 hsp => ?_) (fun _ _ y => y.elim)
          have leave : ∀ {σ6 : L2.St} {H6 : Hp} {Q : Shared → Prop}, Inv (X.suite ea ((ea, oe4) :: (X.pn ++ pins))) [] σ6 H6 s6 → (∀ s7, Inv X pins (σ6.set i none) H6 s7 → Q s7) →
              wpAny (model X.prog X.w) X.A (do bindName X.env n .none; unbindBehindTheSuite X.env n pos') (fun _ s7 => Q s7) X.xe s6 := fun {σ6 H6 Q} S6 hq => gone_ok (S6.unsuite okx) hN hi hln hq
          cases fl with
          | next =>
            obtain ⟨σ6, H6, S6, q6⟩ := hsp
            exact leave S6 fun s7 J7 => ⟨_, _, J7, q6⟩
          | brk =>
            obtain ⟨σ6, H6, S6, q6⟩ := hsp
            exact leave S6 fun s7 J7 => ⟨_, _, J7, q6⟩
          | cont =>
            obtain ⟨σ6, H6, S6, q6⟩ := hsp
            exact leave S6 fun s7 J7 => ⟨_, _, J7, q6⟩
          | ret u =>
            obtain ⟨v6, σ6, H6, S6, r6, q6⟩ := hsp
            exact leave S6 fun s7 J7 => ⟨_, _, _, J7, r6, q6⟩
        | false =>
          show wpAny _ X.A (handleBy (.ref ea) X.env hds2) _ _ _
          exact ih (no rfl)
    exact go hh wq
  · cases fl with
    | next =>
      obtain ⟨σz, Hz, Jt, y⟩ := hsp
      exact wpAny_execs_nil ⟨σz, Hz, Jt.ofTry okx, y⟩
    | brk =>
      obtain ⟨σz, Hz, Jt, y⟩ := hsp
      exact ⟨σz, Hz, Jt.ofTry okx, y⟩
    | cont =>
      obtain ⟨σz, Hz, Jt, y⟩ := hsp
      exact ⟨σz, Hz, Jt.ofTry okx, y⟩
    | ret u =>
      obtain ⟨v, σz, Hz, Jt, r, y⟩ := hsp
      exact ⟨v, σz, Hz, Jt.ofTry okx, r, y⟩
end
end Bk

set_option Elab.async false
set_option linter.all false
set_option maxRecDepth 100000
set_option maxHeartbeats 2000000
namespace PySem.W
open PySem PySem.Spec PySem.Calls PyProof.Rows
/-- isinstance(x, c), where x's type lies below c: nothing else is asked -/
theorem below_ans {K : Frag} {x t c : Value} {HP : Heap → Prop} (ty : ∀ (M : Model) (h : Heap), K.In h → HP h → Looks M h (typeOf x) t) (e : kitCls K t c = some true) (ne : (t == c) = false) : Answers (fun s => K.In s.heap ∧ HP s.heap) x c true := by
  intro dep tk prog w A R s hs
  obtain ⟨hp, ge, dr, tks, oo⟩ := s
  obtain ⟨⟨X, p⟩, hq⟩ := hs
  have L1 := ty (model prog w) hp X p
  unfold Builtin.«isinstance.nested»
  refine wpAny_bind (L1.at ?_)
  rw [if_neg (fun y => by rw [ne] at y; exact Bool.noConfusion y)]
  obtain ⟨h1, h2, h3⟩ := kit_cls (M := model prog w) X e
  have L2 : Looks (model prog w) hp (isInstance x c) true := L1.andThen h3
  refine wpAny_bind (h1.at ?_)
  rw [if_pos (by decide)]
  k_delta "plainIsInstance"
  refine wpAny_bind (wpAny_bind (h2.at ?_))
  simp only [Bool.not_true, Bool.false_eq_true, if_false]
  refine wpAny_bind (L2.at ?_)
  first
    | exact wpAny_pure (wpAny_pure (hq tks))
    | (simp only [if_true]; first | exact wpAny_pure (wpAny_pure (hq tks)) | exact wpAny_pure (hq tks) | exact wpAny_bind (wpAny_pure (wpAny_pure (hq tks))))
end PySem.W
namespace Bk
open PySem PySem.Spec PyProof.Rows L2
/-- isinstance(e, c), e the exception that the suite holds, its class below c -/
theorem call_below {X : Cx} {ea D CH : Addr} {oe : Obj} {dq : Option Addr} {pn : List (Addr × Obj)} (e : PySem.W.kitCls X.K (.ref D) (.ref CH) = some true) (ne : D ≠ CH) (hz : Zc (.ref D) dq oe) :
    CallR (X.suite ea ((ea, oe) :: pn)) (.builtin "isinstance") (fun xs H Q => xs = [.ref ea, .ref CH] ∧ Q (.bl true) H) := by
  intro pins s σ H xs us Q I r h
  obtain ⟨rfl, q⟩ := h
  cases r with
  | cons rx rr =>
    cases rr with
    | cons rt rr =>
      cases rr
      cases rx
      cases rt
      obtain ⟨hget, _⟩ := I.pin (ea, oe) (List.mem_append.mpr (.inl List.mem_cons_self))
      refine PySem.call_isinstance (S := fun _ R s => (X.K.In s.heap ∧ s.heap.get? ea = some oe) ∧ ∀ tk, R (.ok (.ret (.bool true))) { s with toks := tk }) (fun prog w A R s hs => PySem.isinstance_outer (PySem.W.below_ans (HP := fun h => h.get? ea = some oe) (fun M h _ hg => ?_) e ?_ 0 _ prog w A R s hs) (by intro y; cases y)) ⟨⟨I.kIn, hget⟩, fun tk => ⟨.bl true, H, I.kept (t' := tk) fun _ _ y => y, rfl, q⟩⟩
      · exact fun A Q E s k y => wpAny_typeOf_ref (k _ _ hg) (by rw [hz.1]; exact y)
      · simp [ne]
/-- what is asked of the errors' classes by their hearer -/
structure HCls (K : PySem.W.Frag) (mg : Str → Option Value) (CB CG CH : Addr) : Prop where
  gH : mg "HoldError" = some (.ref CH)
  kb : PySem.W.kitCls K (.ref CB) (.ref CH) = some true
  kg : PySem.W.kitCls K (.ref CG) (.ref CH) = some true
  nb : CB ≠ CH
  ng : CG ≠ CH
  bb : PySem.W.exmOne K (.ref CB) (.ref CB) = some true
  gb : PySem.W.exmOne K (.ref CG) (.ref CB) = some false
  gg : PySem.W.exmOne K (.ref CG) (.ref CG) = some true
  nm : PySem.W.findIn K (.ref CG) "most" = some none
theorem takes_len {X : Cx} {W : WX} (tk : Takes X W) : Takes X (fun cls d σ H => σ.length = X.N.length → W cls d σ H) := fun u s' x => by
  obtain ⟨a, B, sI, pins, σ, H, cls, d, e, I, r1, r2, r3, r4, r5, r6, w⟩ := x
  exact tk u s' ⟨a, B, sI, pins, σ, H, cls, d, e, I, r1, r2, r3, r4, r5, r6, w I.len⟩
/-- what _law_heard makes of what it calls -/
def TTh (CB CG : Addr) : (XK → Hp → VK → Prop) → Hp → VK → Prop := fun tl H Q =>
  tl (fun cls d H1 => (cls = .ref CB ∧ ∀ p, H1 p = none → Q (.ref p) (upd H1 p (.tup [.str "book", .bl true]))) ∨
      (cls = .ref CG ∧ ∃ dd v, d = some dd ∧ H1 dd = some (.xd [(("most" : Str), v)]) ∧ ∀ p, H1 p = none → Q (.ref p) (upd H1 p (.tup [.str "great", v, .bl true])))) H
    (fun v H1 => ∀ p, H1 p = none → Q (.ref p) (upd H1 p (.tup [.str "is", v])))
theorem run_ex {X : Cx} {st : List Stmt} {pins : List (Addr × Obj)} {s : Shared} {σ : L2.St} {H : Hp} {D : Ends} (I : Inv X pins σ H s) (h : ∃ t, PSs X st t ∧ t D σ H) : wpAny (model X.prog X.w) X.A (execs st X.env) (SP X pins D) X.xe s := by
  obtain ⟨t, h1, h2⟩ := h
  exact h1.run pins s σ H D I h2
theorem sc__law_heard : FnScope ["_law_call", "_law_told", "error_so"] ["_law_call"] (defScope s__law_heard) := ⟨rfl, rfl, rfl, by decide +kernel, rfl, by decide +kernel, by decide +kernel⟩
theorem heard_gives {X : Cx} {g : Addr} {cdg : Value} {CB CG CH : Addr} {q : Str} (T : TxA X.K X.mg) (U : XCls X.prog X.K X.mg CB CG) (V : HCls X.K X.mg CB CG CH) :
    LamX.GivesTo X ["_law_call", "_law_told", "error_so"] "_law_heard" (defScope s__law_heard) g cdg (defBody s__law_heard) "_law_call" q (TTh CB CG) := by
  intro f c' s H Q tl act hc h
  have G := sc__law_heard
  refine ⟨_, pss_cons (ps_set (i := 1) G.nd rfl (Or.inl rfl) pe_non) (pss_cons (ps_try_named (X := (cxOf C8.CX0 X.prog X.w X.K X.mg X.base ["_law_call", "_law_told", "error_so"] "_law_heard" (defScope s__law_heard) g cdg X.A X.stack s H C8.E0).nox) (Wo := fun _ _ _ _ => False)
      (tb := fun W D σ H => ∃ Ech : XK, (∀ cls d σ' H', Ech cls d H' → σ'.length = 3 → W cls d σ' H') ∧ σ[0]? = some (some (.ref f)) ∧ H c' = some (LamX.CodeO c' q) ∧ tl Ech H (fun v H1 => (2 : Nat) ≤ sizeLine ∧ ∀ p, H1 p = none → D.nx (σ.set 1 (some (.ref p))) (upd H1 p (.tup [.str "is", v]))))
      (l := [(.ref CB, 2, fun ea cc dq => fun D σ H => cc = .ref CB ∧ σ[2]? = some (some (.ref ea)) ∧ ∀ p, H p = none → D.nx (σ.set 1 (some (.ref p))) (upd H p (.tup [.str "book", .bl true]))),
        (.ref CG, 2, fun ea cc dq => fun D σ H => cc = .ref CG ∧ σ[2]? = some (some (.ref ea)) ∧ ∃ dd v, dq = some dd ∧ H dd = some (.xd [(("most" : Str), v)]) ∧ ∀ p, H p = none → D.nx (σ.set 1 (some (.ref p))) (upd H p (.tup [.str "great", v, .bl true])))])
      rfl rfl G.nd LamX.takes0 (fun W pn xe tk _ => ?body) (.cons ⟨rfl, by decide, .inl U.bad.gC⟩ rfl rfl ?s1 (.cons ⟨rfl, by decide, .inl U.great.gC⟩ rfl rfl ?s2 .nil))) (pss_one (ps_ret (pe_var (i := 1) rfl (Or.inl rfl))))), ?fin⟩
  case body =>
    refine ⟨fun pins s' σ H' D I h' => ?_⟩
    obtain ⟨Ech, hW, h1, h2, h3⟩ := h'
    have hp := fun p1 p2 => act (fun cls d σ H => σ.length = 3 → W cls d σ H) pn xe Ech p1 p2 (takes_len tk) (fun cls d σ' H' e l => hW cls d σ' H' e l)
    exact run_ex I ⟨_, pss_one (ps_set (i := 1) G.nd rfl (Or.inl rfl) (pe_tup (pa_cons pe_str (pa_cons (hp _ _) pa_nil)))), ⟨h1, h2, h3⟩⟩
  case s1 =>
    intro ea oe cc dq pn hz hf
    refine ⟨fun pins s' σ H' D I h' => ?_⟩
    obtain ⟨ecc, hs, hk⟩ := h'
    subst ecc
    exact run_ex I ⟨_, pss_one (ps_set (i := 1) G.nd rfl (Or.inl rfl) (pe_tup (pa_cons pe_str (pa_cons (pe_callB (call_below V.kb V.nb hz) rfl T.n_isinstance (by decide +kernel) (pa_cons (pe_var (i := 2) rfl (Or.inl rfl)) (pa_cons (pe_glob (v := .ref CH) rfl V.gH rfl) pa_nil))) pa_nil)))), ⟨_, hs, ⟨rfl, by show 2 ≤ sizeLine; rw [sizeLine_eq]; omega, hk⟩⟩⟩
  case s2 =>
    intro ea oe cc dq pn hz hf
    refine ⟨fun pins s' σ H' D I h' => ?_⟩
    obtain ⟨ecc, hs, dd, v, ed, hd, hk⟩ := h'
    subst ecc
    have lk : List.lookup ("most" : Str) [(("most" : Str), v)] = some v := by simp [List.lookup]
    exact run_ex I ⟨_, pss_one (ps_set (i := 1) G.nd rfl (Or.inl rfl) (pe_tup (pa_cons pe_str (pa_cons (pe_xf ⟨U.great.ga, U.great.gg, U.great.exC, U.great.hdC⟩ V.nm hz hf (pe_var (i := 2) rfl (Or.inl rfl)))
      (pa_cons (pe_callB (call_below V.kg V.ng hz) rfl T.n_isinstance (by decide +kernel) (pa_cons (pe_var (i := 2) rfl (Or.inl rfl)) (pa_cons (pe_glob (v := .ref CH) rfl V.gH rfl) pa_nil))) pa_nil))))), ⟨_, hs, rfl, rfl, dd, _, v, ed, hd, lk, _, hs, rfl, by show 3 ≤ sizeLine; rw [sizeLine_eq]; omega, hk⟩⟩
  case fin =>
    have two : (2 : Nat) ≤ sizeLine := by rw [sizeLine_eq]; omega
    have back : ∀ (σ' : L2.St) (ea p : Addr), σ'.length = 3 → ((((σ'.set 2 (some (L2.V.ref ea))).set 1 (some (L2.V.ref p))).set 2 none)[1]? : Option (Option L2.V)) = some (some (L2.V.ref p)) := fun σ' ea p hl => by
      rw [List.getElem?_set_ne (by decide), List.getElem?_set_self (by rw [List.length_set, hl]; decide)]
    have at2 : ∀ (σ' : L2.St) (ea : Addr), σ'.length = 3 → ((σ'.set 2 (some (L2.V.ref ea)))[2]? : Option (Option L2.V)) = some (some (L2.V.ref ea)) := fun σ' ea hl => by
      rw [List.getElem?_set_self (by rw [hl]; decide)]
    refine ⟨fun cls d H1 => (cls = .ref CB ∧ ∀ p, H1 p = none → Q (.ref p) (upd H1 p (.tup [.str "book", .bl true]))) ∨
      (cls = .ref CG ∧ ∃ dd v, d = some dd ∧ H1 dd = some (.xd [(("most" : Str), v)]) ∧ ∀ p, H1 p = none → Q (.ref p) (upd H1 p (.tup [.str "great", v, .bl true]))), fun cls d σ' H' e l => ?_, rfl, hc, ?_⟩
    · rcases e with ⟨rfl, hk⟩ | ⟨rfl, dd, v, ed, hd, hk⟩
      · exact ⟨true, V.bb, fun _ ea _ => ⟨rfl, at2 σ' ea l, fun p hp => ⟨_, back σ' ea p l, hk p hp⟩⟩, fun y => by cases y⟩
      · exact ⟨false, V.gb, fun y => (by cases y), fun _ => ⟨true, V.gg, fun _ ea _ => ⟨rfl, at2 σ' ea l, dd, v, ed, hd, fun p hp => ⟨_, back σ' ea p l, hk p hp⟩⟩, fun y => by cases y⟩⟩
    · have e : (fun (v : L2.V) (H1 : Hp) => ∀ p, H1 p = none → Q (.ref p) (upd H1 p (.tup [.str "is", v]))) = (fun (v : L2.V) (H1 : Hp) => (2 : Nat) ≤ sizeLine ∧ ∀ p, H1 p = none → Q (.ref p) (upd H1 p (.tup [.str "is", v]))) := by
        funext v H1
        exact propext ⟨fun z => ⟨two, z⟩, fun z => z.2⟩
      have h' := h
      unfold TTh at h'
      rw [e] at h'
      exact cast (congrArg (fun z => tl _ H z) (by
        funext v H1
        refine propext ⟨fun z => ⟨z.1, fun p hp => ⟨_, ?_, z.2 p hp⟩⟩, fun z => ⟨z.1, fun p hp => ?_⟩⟩
        · rfl
        · obtain ⟨v', e1, e2⟩ := z.2 p hp
          cases e1
          exact e2)) h'
end Bk

set_option Elab.async false
set_option linter.all false
set_option maxRecDepth 100000
set_option maxHeartbeats 2000000
/-! defs that are entered where no guard stands; repr -/
namespace Bk
open PySem PySem.Spec PyProof.Rows L2
/-- a def keeps a promise where nothing is being shown -/
structure FnG (P : Program) (w : World) (K : PySem.W.Frag) (mg : Str → Option Value) (base : Heap) (k : Nat) (f : Addr) (fd : FuncData) (ps : List Str) (sp : Sp) : Prop where
  len : ∀ vs H Q E, sp vs H Q E → vs.length = ps.length
  run : ∀ (A : Around) (outer : List Env) (s : Shared) (H : Hp) (args : Args) (us : List Value) (vs : List V) (Q : VK) (E : XK), Room k A → A.guards = some [] → Env0 P w K mg base A outer s H → BindsTo s fd args (ps.zip us) → Vals vs us → sp vs H Q E →
    codeAny (model P w) A (.call (.ref f) args) (CR CX0 outer P w H s Q E) s
theorem FnOk.g {P : Program} {w : World} {K : PySem.W.Frag} {mg : Str → Option Value} {base : Heap} {k : Nat} {f : Addr} {fd : FuncData} {ps : List Str} {sp : Sp} (F : FnOk P w K mg base CX0 k f fd ps sp) : FnG P w K mg base k f fd ps sp :=
  ⟨F.len, fun A outer s H args us vs Q E hr _ => F.run A outer s H args us vs Q E hr⟩
/-- fnG_of: the def's code object is told by name -/
theorem fnG_of {P : Program} {w : World} {K : PySem.W.Frag} {mg : Str → Option Value} {base : Heap} {x : Str} {params : Arguments} {body : List Stmt} {scope : Scope} {f : Addr} {fd : FuncData} {N ps : List Str} {k : Nat} {sp : Sp} (F : FunD K x x params body scope [] [] f fd) (S : FnScope N ps scope)
    (hfa : f = He.fAd K (x, none)) (len : ∀ vs H Q E, sp vs H Q E → vs.length = ps.length)
    (hbody : ∀ (cdv : Value) (A : Around) (outer : List Env) (s : Shared) (H : Hp) (vs : List V) (Q : VK) (E : XK), Room k (A.deeper (envOfC x scope s.heap.objs.size f cdv)) → A.guards = some [] → cdv = .ref (He.codeOf K (x, none)) → sp vs H Q E →
      wSs (cxOf CX0 P w K mg base N x scope f cdv A outer s H E).nox body { nx := fun _ H' => Q .non H', rt := Q } (L2.start N vs) H) : FnG P w K mg base (k + 1) f fd ps sp := by
  obtain ⟨oc, od, dV, kV, doc, pm, an, cdv, ct, osl, rfl, lk, hcd, _, _⟩ := F.ex
  refine ⟨len, fun A outer s H args us vs Q E hr hg e0 hb r hsp => ?_⟩
  exact LamX.run_ofS lk hcd S hr e0 hb r (len vs H Q E hsp) fun hr' => ⟨_, PSs.nox pss_w, hbody cdv A outer s H vs Q E hr' hg (by
    obtain ⟨c, rfl⟩ := He.codeIn_ref hcd
    rw [He.codeOf_eq (by rw [← hfa]; exact lk) rfl]) hsp⟩
theorem pe_callG {X : Cx} {k : Nat} {f : Addr} {fd : FuncData} {ps : List Str} {sp : Sp} {x : Str} {p pos : Pos} {e : Expr} {es : List Expr} {t : TA} {E : XK} (F : FnG X.prog X.w X.K X.mg X.base k f fd ps sp) (hr : Room k X.A) (hgu : X.A.guards = some []) (hg : Gl X x) (hm : X.mg x = some (.ref f))
    (hk : PySem.W.keepIn X.K (.ref f) = true) (hb : Binds X.K fd ps []) (ha : PA X (e :: es) t) (hdb : (x == ("__debug__" : Str)) = false := by decide)
    (he : starEach (e :: es) X.env = (false, eval e X.env) :: starEach es X.env := by rfl) (hpl : (backTo pos (starEach es X.env)).any (·.1) = false := by rfl) :
    PE X (.Call (.Name x p) (e :: es) [] pos) (fun σ H Q => t σ H fun vs H1 => sp vs H1 Q E) := by
  refine ⟨fun pins s σ H Q I hq => ?_⟩
  refine wpAny_Call_Name_kw (ld_glob I hg hm ?_ hdb)
  refine PySem.W.callWith_K (h₀ := X.base) I.ok.mod.kin hk (thn (ha.run pos pins s σ H _ I hq) fun us s1 ⟨vs, H1, J, r, q⟩ => ⟨J.kIn, ?_⟩) he hpl
  have hl : us.length = ps.length := by rw [← r.length]; exact F.len _ _ _ _ q
  have b := hb s1 us J.kIn (by rw [List.append_nil]; exact hl)
  rw [List.append_nil] at b
  refine wpAny_call (codeAny_mono (F.run X.A X.stack s1 H1 ⟨us, []⟩ us vs Q E hr hgu J.env0 b r q) fun z s2 hz => ?_)
  cases z with
  | error er => exact (show False from hz).elim
  | ok fl =>
    cases fl with
    | ret u => exact J.after hz
    | next => exact False.elim hz
    | brk => exact False.elim hz
    | cont => exact False.elim hz

/-! ### repr of data -/
def sumO (f : PyData → Option Nat) : List PyData → Option Nat
  | [] => some 0
  | d :: ds => bnd (f d) fun a => bnd (sumO f ds) fun b => some (a + 2 + b)
/-- how long a text its repr is at most -/
def shl : Nat → PyData → Option Nat
  | _, .int i => grd (Nat.ble i.natAbs 999999) (some 7)
  | _, .bool _ => some 5
  | _, .str x => some (reprText x).length
  | n + 1, .tuple ds => bnd (sumO (shl n) ds) fun k => some (k + 3)
  | _, _ => none
theorem join_le (ts : List Str) : (Str.join ", " ts).length ≤ piled ts := by
  by_cases h : ts = []
  · subst h
    exact Nat.zero_le _
  · have := join_length_add ts h
    omega
theorem shl_ok : ∀ (n : Nat) (d : PyData) (k : Nat), shl n d = some k → d.shown.length ≤ k ∧ d.showable = true ∧ d.hasDict = false ∧ d.depth ≤ n
  | n, .int i, k, h => by
    have h' : grd (Nat.ble i.natAbs 999999) (some 7) = some k := by cases n <;> exact h
    obtain ⟨h1, h2⟩ := grd_some h'
    cases h2
    have h3 := Nat.le_of_ble_eq_true h1
    refine ⟨?_, ?_, by simp only [PyData.hasDict], by simp [PyData.depth]⟩
    · show (Str.ofString (toString i)).length ≤ 7
      have h4 := int_text_length_le10 (a := i) (k := 6) (by decide) (by omega)
      rw [PySem.ofString_length]
      omega
    · simp only [PyData.showable]
      refine decide_eq_true ?_
      by_cases hz : i.natAbs = 0
      · rw [hz]
        decide
      · have h4 : i.natAbs.log2 < 20 := (Nat.log2_lt hz).mpr (by omega)
        omega
  | n, .bool b, k, h => by
    have h' : some 5 = some k := by cases n <;> exact h
    cases h'
    refine ⟨?_, by simp only [PyData.showable], by simp only [PyData.hasDict], by simp [PyData.depth]⟩
    cases b
    · show (Str.ofString "False").length ≤ 5
      decide
    · show (Str.ofString "True").length ≤ 5
      decide
  | n, .str x, k, h => by
    have h' : some (reprText x).length = some k := by cases n <;> exact h
    cases h'
    exact ⟨Nat.le_refl _, by simp only [PyData.showable], by simp only [PyData.hasDict], by simp [PyData.depth]⟩
  | 0, .tuple ds, k, h => by cases h
  | n, .none, k, h => by cases n <;> cases h
  | n, .list ds, k, h => by cases n <;> cases h
  | n, .dict ds, k, h => by cases n <;> cases h
  | n + 1, .tuple ds, k, h => by
    obtain ⟨m, h1, h2⟩ := bnd_some h
    cases h2
    have go : ∀ (ds : List PyData) (m : Nat), sumO (shl n) ds = some m → piled (PyData.shownAll ds) ≤ m ∧ PyData.showableAll ds = true ∧ PyData.hasDictAll ds = false ∧ PyData.depthAll ds ≤ n := by
      intro ds
      induction ds with
      | nil =>
        intro m e
        cases e
        exact ⟨by simp [PyData.shownAll, piled], by simp only [PyData.showableAll], by simp only [PyData.hasDictAll], by simp [PyData.depthAll]⟩
      | cons d ds ih =>
        intro m e
        obtain ⟨a, e1, e2⟩ := bnd_some e
        obtain ⟨b, e3, e4⟩ := bnd_some e2
        cases e4
        obtain ⟨p1, p2, p3, p4⟩ := shl_ok n d a e1
        obtain ⟨q1, q2, q3, q4⟩ := ih b e3
        refine ⟨?_, by simp only [PyData.showableAll, p2, q2, Bool.and_self], by simp only [PyData.hasDictAll, p3, q3, Bool.or_self], ?_⟩
        · simp only [PyData.shownAll]
          rw [piled_cons]
          omega
        · simp only [PyData.depthAll]
          omega
    obtain ⟨p1, p2, p3, p4⟩ := go ds m h1
    refine ⟨?_, by simpa only [PyData.showable] using p2, by simpa only [PyData.hasDict] using p3, ?_⟩
    · simp only [PyData.shown, tupleText]
      have hj := join_le (PyData.shownAll ds)
      rw [Str.length_append, Str.length_append]
      have h1 : (("(" : String) : Str).length = 1 := rfl
      have h2 : ((if ((PyData.shownAll ds).length == 1) = true then ",)" else ")" : String) : Str).length ≤ 2 := by
        split
        · exact Nat.le_refl _
        · exact Nat.le_succ _
      omega
    · simp only [PyData.depth]
      omega
/-- repr(e), e data -/
theorem call_repr {X : Cx} (hgu : X.A.guards = some []) (hu : X.A.units + 64 < cLine) : CallR X (.builtin "repr") (fun xs H Q => ∃ (a : Addr) (ds : List PyData) (k : Nat), xs = [.ref a] ∧ Dp X.K H (.ref a) (.tuple ds) ∧ shl 8 (.tuple ds) = some k ∧ k ≤ 16777216 ∧ Q (.str (PyData.tuple ds).shown) H) := by
  intro pins s σ H xs us Q I r hq
  obtain ⟨a, ds, k, rfl, hd, hk, hle, q⟩ := hq
  cases r with
  | cons rx rr =>
    cases rr
    cases rx
    obtain ⟨as, rd⟩ := Dp.reads I (.tuple ds) (.ref a) (.ref a) hd rfl
    obtain ⟨h1, h2, h3, h4⟩ := shl_ok 8 _ k hk
    refine repr_of_reads' rd h2 (PyData.noDict_hsm h3) hgu (by omega) (fun b o e => e) (fun h' u tk hkp => ⟨.str _, H, I.kept (t' := tk) hkp, ⟨u, rfl⟩, q⟩) (by rw [sizeLine_eq]; omega)
def allS (f : PyData → PyData → Bool) : List PyData → List PyData → Bool
  | [], [] => true
  | d :: ds, e :: es => f d e && allS f ds es
  | _, _ => false
theorem allS_eq {f : PyData → PyData → Bool} (hf : ∀ d e, f d e = true → d = e) : ∀ {ds es : List PyData}, allS f ds es = true → ds = es
  | [], [], _ => rfl
  | [], _ :: _, h => by cases h
  | _ :: _, [], h => by cases h
  | d :: ds, e :: es, h => by
    have h' : f d e = true ∧ allS f ds es = true := by simpa only [allS, Bool.and_eq_true] using h
    rw [hf d e h'.1, allS_eq hf h'.2]
/-- the same data, seen -/
def sameD : Nat → PyData → PyData → Bool
  | _, .int i, .int j => decide (i = j)
  | n + 1, .tuple ds, .tuple es => allS (sameD n) ds es
  | _, _, _ => false
theorem sameD_eq : ∀ (n : Nat) (d e : PyData), sameD n d e = true → d = e := by
  intro n
  induction n with
  | zero =>
    intro d e h
    unfold sameD at h
    split at h
    · rw [of_decide_eq_true h]
    · rename_i hz
      cases hz
    · cases h
  | succ n ih =>
    intro d e h
    unfold sameD at h
    split at h
    · rw [of_decide_eq_true h]
    · rename_i n' ds es hn
      cases hn
      rw [allS_eq ih h]
    · cases h
end Bk

set_option Elab.async false
set_option linter.all false
set_option maxRecDepth 100000
set_option maxHeartbeats 2000000
/-! the state, its drawing -/
namespace Bk
open PySem PySem.Spec PyProof.Rows L2
/-- a def keeps a promise of any form -/
theorem dokR {P : Program} {w : World} {K : PySem.W.Frag} {mg : Str → Option Value} {base : Heap} {x : Str} {st : Stmt} {N ps : List Str} {n : Nat} {sp : Sp} (T : Txt K mg x st) (S : FnScope N ps (defScope st))
    (hb : ∀ (kV doc pm : Value) (an : Option Addr) (cdv ct : Value) (us : List Value), us.length = ps.length → bindArgs (PySem.W.fnOf x x (defArgs st) (defBody st) (defScope st) .none kV doc pm an cdv ct) ⟨us, []⟩ = pure (ps.zip us))
    (len : ∀ vs H Q E, sp vs H Q E → vs.length = ps.length)
    (hbody : ∀ (f : Addr) (cdv : Value) (A : Around) (outer : List Env) (s : Shared) (H : Hp) (vs : List V) (Q : VK) (E : XK), Room n (A.deeper (envOfC x (defScope st) s.heap.objs.size f cdv)) → sp vs H Q E →
      wSs (cxOf CX0 P w K mg base N x (defScope st) f cdv A outer s H E).nox (defBody st) { nx := fun _ H' => Q .non H', rt := Q } (L2.start N vs) H) : Dok P w K mg base x (n + 1) ps sp := by
  obtain ⟨fd, F⟩ := T.F
  exact ⟨⟨fd, F.ok S len fun cdv A outer s H vs Q E hr hsp => ⟨_, PSs.nox pss_w, hbody _ cdv A outer s H vs Q E hr hsp⟩, F.bindsN hb⟩, F.kp, T.gl⟩
structure DokG (P : Program) (w : World) (K : PySem.W.Frag) (mg : Str → Option Value) (base : Heap) (x : Str) (k : Nat) (ps : List Str) (sp : Sp) : Prop where
  ex : ∃ fd, FnG P w K mg base k (He.ga K x) fd ps sp ∧ Binds K fd ps []
  kp : PySem.W.keepIn K (.ref (He.ga K x)) = true
  gl : mg x = some (.ref (He.ga K x))
theorem dokG {P : Program} {w : World} {K : PySem.W.Frag} {mg : Str → Option Value} {base : Heap} {x : Str} {st : Stmt} {N ps : List Str} {n : Nat} {sp : Sp} (T : Txt K mg x st) (S : FnScope N ps (defScope st))
    (hb : ∀ (kV doc pm : Value) (an : Option Addr) (cdv ct : Value) (us : List Value), us.length = ps.length → bindArgs (PySem.W.fnOf x x (defArgs st) (defBody st) (defScope st) .none kV doc pm an cdv ct) ⟨us, []⟩ = pure (ps.zip us))
    (len : ∀ vs H Q E, sp vs H Q E → vs.length = ps.length)
    (hbody : ∀ (f : Addr) (cdv : Value) (A : Around) (outer : List Env) (s : Shared) (H : Hp) (vs : List V) (Q : VK) (E : XK), Room n (A.deeper (envOfC x (defScope st) s.heap.objs.size f cdv)) → A.guards = some [] → cdv = .ref (He.codeOf K (x, none)) → sp vs H Q E →
      wSs (cxOf CX0 P w K mg base N x (defScope st) f cdv A outer s H E).nox (defBody st) { nx := fun _ H' => Q .non H', rt := Q } (L2.start N vs) H) : DokG P w K mg base x (n + 1) ps sp := by
  obtain ⟨fd, F⟩ := T.F
  exact ⟨⟨fd, fnG_of F S rfl len fun cdv A outer s H vs Q E hr hg hc hsp => hbody _ cdv A outer s H vs Q E hr hg hc hsp, F.bindsN hb⟩, F.kp, T.gl⟩
theorem wSs_ex {X : Cx} {st : List Stmt} {σ : L2.St} {H : Hp} {D : Ends} (h : ∃ t, PSs X st t ∧ t D σ H) : wSs X st D σ H := by
  obtain ⟨t, h1, h2⟩ := h
  exact to_wSs h1 h2
theorem wS_ex {X : Cx} {st : Stmt} {σ : L2.St} {H : Hp} {D : Ends} (h : ∃ t, PS X st t ∧ t D σ H) : wS X st D σ H := by
  obtain ⟨t, h1, h2⟩ := h
  exact to_wS h1 h2
theorem wE_ex {X : Cx} {e : Expr} {σ : L2.St} {H : Hp} {Q : VK} (h : ∃ t, PE X e t ∧ t σ H Q) : wE X e σ H Q := by
  obtain ⟨t, h1, h2⟩ := h
  exact to_wE h1 h2
section
variable {P : Program} {w : World} {K : PySem.W.Frag} {mg : Str → Option Value} {base : Heap}
/-! ### _law_like -/
def spLike (K : PySem.W.Frag) : Sp := fun vs H Q _ => ∃ (a b : Addr) (ds : List PyData) (k : Nat), vs = [.ref a, .ref b] ∧ Dp K H (.ref a) (.tuple ds) ∧ Dp K H (.ref b) (.tuple ds) ∧ shl 8 (.tuple ds) = some k ∧ k ≤ 16777216 ∧ Q (.bl true) H
theorem sc__law_like : FnScope ["_law_got", "_law_due"] ["_law_got", "_law_due"] (defScope s__law_like) := ⟨rfl, rfl, rfl, by decide +kernel, rfl, by decide +kernel, by decide +kernel⟩
theorem ok__law_like (T : TxA K mg) : DokG P w K mg base "_law_like" 1 ["_law_got", "_law_due"] (spLike K) := by
  refine dokG T.t__law_like sc__law_like (fun _ _ _ _ _ _ us hl => match us, hl with | [_, _], _ => rfl) (fun vs H Q E h => ?_) ?_
  · obtain ⟨a, b, ds, k, rfl, _⟩ := h
    rfl
  · intro f cdv A outer s H vs Q E hr hgu _ h
    obtain ⟨a, b, ds, k, rfl, h1, h2, h3, h4, q⟩ := h
    refine wSs_ex ⟨_, pss_one (ps_ret (pe_cmpR op_eq (pe_callB (call_repr hgu hr.units) rfl T.n_repr (by decide +kernel) (pa_cons (pe_var (i := 0) rfl (Or.inl rfl)) pa_nil)) (pe_callB (call_repr hgu hr.units) rfl T.n_repr (by decide +kernel) (pa_cons (pe_var (i := 1) rfl (Or.inl rfl)) pa_nil)) (nomark _))), ?_⟩
    refine ⟨_, rfl, a, ds, k, rfl, h1, h3, h4, _, rfl, b, ds, k, rfl, h2, h3, h4, rfl, ?_⟩
    rw [decide_eq_true rfl]
    exact q
/-! ### whole numbers -/
theorem ek_intc {X : Cx} {a : Expr} {G : Cn} {i : Int} {p pos : Pos} (h : EK X a G (.im (.int i))) (hm : X.mg "int" = none) (hg : Gl X "int" := by rfl) (he : starEach (a :: []) X.env = (false, eval a X.env) :: starEach [] X.env := by rfl) (hpl : (backTo pos (starEach [] X.env)).any (·.1) = false := by rfl) :
    EK X (.Call (.Name "int" p) [a] [] pos) G (.im (.int i)) := fun P σ H Q s q =>
  to_wE (pe_callTy call_int1 hg hm (by decide +kernel) (pa_cons pe_w pa_nil he) (by decide) (by decide) he hpl) (h P σ H _ s fun v H1 e1 o => .inl ⟨i, by rw [o.2.int_inv], q _ H1 e1 ⟨imm_int _, .int _⟩⟩)
def mixV (c k : Int) : Int := (c % 2147483647 * (48271 + 2 * k * k) + 69621 * k + 11) % 2147483647 * 69621 % 2147483629
theorem mixV_lt (c k : Int) : 0 ≤ mixV c k ∧ mixV c k < 2147483629 := by
  unfold mixV
  exact ⟨Int.emod_nonneg _ (by decide), Int.emod_lt_of_pos _ (by decide)⟩
abbrev spMix (K : PySem.W.Frag) : Sp := Prm K (fun a : Int × Int => 0 ≤ a.2 ∧ a.2 ≤ 100000) (fun a => [.im (.int a.1), .im (.int a.2)]) fun a => .im (.int (mixV a.1 a.2))
theorem sc__law_mixed : FnScope ["_law_cell", "_law_k"] ["_law_cell", "_law_k"] (defScope s__law_mixed) := ⟨rfl, rfl, rfl, by decide +kernel, rfl, by decide +kernel, by decide +kernel⟩
theorem ok__law_mixed (T : TxA K mg) : Dok P w K mg base "_law_mixed" 1 ["_law_cell", "_law_k"] (spMix K) := by
  refine dok T.t__law_mixed sc__law_mixed (fun _ _ _ _ _ _ us hl => match us, hl with | [_, _], _ => rfl) (fun a => [.im (.int a.1), .im (.int a.2)]) (fun _ => rfl) (fun _ => rfl) ?_
  rintro ⟨c, k⟩ ⟨h1, h2⟩ f cdv A outer s H E hr
  have sm : ∀ {i j : Int}, 0 ≤ j → j ≤ 1000000000 → CMul i j := fun {i j} a b => .inr ⟨by omega, by omega⟩
  have sm' : ∀ {i j : Int}, 0 ≤ i → i ≤ 1000000000 → CMul i j := fun {i j} a b => .inl ⟨by omega, by omega⟩
  have lt1 : ∀ i : Int, 0 ≤ i % 2147483647 ∧ i % 2147483647 < 2147483647 := fun i => ⟨Int.emod_nonneg _ (by decide), Int.emod_lt_of_pos _ (by decide)⟩
  refine sks_eq (sk_setI 0 (ek_mod (ek_intc (ek_im 0) T.n_int) ek_int (by decide)) sc__law_mixed.nd) (sks_one (sk_ret (ek_mod (ek_mul (ek_mod (ek_add (ek_add (ek_mul (ek_im 0) (ek_add ek_int (ek_mul (ek_mul ek_int (ek_im 1) ?a) (ek_im 1) ?b)) ?c) (ek_mul ek_int (ek_im 1) ?d)) ek_int) ek_int (by decide)) ek_int ?e) ek_int (by decide)) rfl))
  case a => exact sm' (by decide) (by decide)
  case b => exact sm h1 (by omega)
  case c =>
    have := lt1 c
    exact .inl ⟨by omega, by omega⟩
  case d => exact sm' (by decide) (by decide)
  case e => exact sm (by decide) (by decide)
end
end Bk

set_option Elab.async false
set_option linter.all false
set_option maxRecDepth 100000
set_option maxHeartbeats 2000000
namespace Bk
open PySem PySem.Spec PyProof.Rows L2
/-! the state's dict -/
def stK (c l : Addr) (n : Nat) : List (Key × V) := [(.inr "cells", .ref c), (.inr "lefts", .ref l), (.inr "at", .int (n : Nat))]
structure StOk (H : Hp) (a c l : Addr) (n : Nat) : Prop where
  dk : H a = some (.dK (stK c l n))
  ce : ∃ cells lefts : List Int, H c = some (.lst (cells.map V.int)) ∧ H l = some (.lst (lefts.map V.int)) ∧ cells.length = lefts.length ∧ 0 < cells.length ∧ cells.length ≤ 1000
  ncl : c ≠ l
def Up (a l : Addr) (H H' : Hp) : Prop := ∀ b o, b ≠ a → b ≠ l → H b = some o → H' b = some o
theorem StOk.same {H H' : Hp} {a c l : Addr} {n : Nat} (st : StOk H a c l n) (e : Same H H') : StOk H' a c l n := by
  obtain ⟨cells, lefts, h1, h2, h3⟩ := st.ce
  exact ⟨e _ _ st.dk, ⟨cells, lefts, e _ _ h1, e _ _ h2, h3⟩, st.ncl⟩
theorem Up.same {H H1 H' : Hp} {a l : Addr} (u : Up a l H H1) (e : Same H1 H') : Up a l H H' := fun b o h1 h2 h3 => e b o (u b o h1 h2 h3)
theorem iteP {c : Prop} [Decidable c] {A B : Prop} (h : c) (x : A) : if decide c = true then A else B := by
  rw [if_pos (decide_eq_true h)]
  exact x
theorem iteN {c : Prop} [Decidable c] {A B : Prop} (h : ¬ c) (x : B) : if decide c = true then A else B := by
  rw [if_neg (by simpa using h)]
  exact x
theorem ixN_nat {L j : Nat} (h : j < L) : ixN L ((j : Nat) : Int) = some j := by
  unfold ixN
  rw [if_pos (by omega), if_pos (by omega)]
  simp
theorem key_ne : (("cells" : Str) ≠ ("lefts" : Str)) ∧ (("cells" : Str) ≠ ("at" : Str)) ∧ (("lefts" : Str) ≠ ("at" : Str)) := by decide
theorem get_cells (c l : Addr) (n : Nat) : valV (stK c l n) (.inr "cells") = some (.ref c) := by simp [valV, stK]
theorem get_lefts (c l : Addr) (n : Nat) : valV (stK c l n) (.inr "lefts") = some (.ref l) := by simp [valV, stK, key_ne.1]
theorem get_at (c l : Addr) (n : Nat) : valV (stK c l n) (.inr "at") = some (.int (n : Nat)) := by simp [valV, stK, key_ne.2.1, key_ne.2.2]
theorem put_at (c l : Addr) (n m : Nat) : putK (stK c l n) (.inr "at") (.int (m : Nat)) = stK c l m := by simp [putK, stK, key_ne.2.1, key_ne.2.2]
section
variable {P : Program} {w : World} {K : PySem.W.Frag} {mg : Str → Option Value} {base : Heap}
theorem pe_mix {X : Cx} {n : Nat} {e1 e2 : Expr} {t1 t2 : TE} {p pos : Pos} (F : Dok X.prog X.w X.K X.mg X.base "_law_mixed" 1 ["_law_cell", "_law_k"] (spMix X.K)) (hr : Room n X.A) (h1 : PE X e1 t1) (h2 : PE X e2 t2) (hkn : Nat.ble 1 n = true := by rfl) (hg : Gl X "_law_mixed" := by rfl)
    (hs1 : starEach [e1, e2] X.env = (false, eval e1 X.env) :: starEach [e2] X.env := by rfl) (hs2 : starEach [e2] X.env = (false, eval e2 X.env) :: starEach [] X.env := by rfl) (hpl : (backTo pos (starEach [e2] X.env)).any (·.1) = false := by rfl) :
    PE X (.Call (.Name "_law_mixed" p) [e1, e2] [] pos) (tCall (spMix X.K) [] (fun _ _ _ => False) (tCons t1 (tCons t2 tNil))) := by
  obtain ⟨fd, F1, hb⟩ := F.ex
  exact pe_call F1 (hr.mono (Nat.le_of_ble_eq_true hkn)) hg F.gl F.kp hb .nil pass0 (pa_cons h1 (pa_cons h2 pa_nil hs2) hs1) (by decide) hs1 hpl
theorem mix_ok {c k : Int} {H1 : Hp} {Q : VK} {E : XK} (h1 : 0 ≤ k) (h2 : k ≤ 100000) (q : ∀ H', Same H1 H' → Q (.int (mixV c k)) H') : spMix K ([.int c, .int k] ++ []) H1 Q E :=
  ⟨(c, k), ⟨h1, h2⟩, .cons ⟨imm_int _, .int _⟩ (.cons ⟨imm_int _, .int _⟩ .nil), fun v H' e o => by
    rw [o.2.int_inv]
    exact q H' e⟩
/-- a number below m is drawn; the state goes on -/
def spDraw : Sp := fun vs H Q _ => ∃ (a c l : Addr) (n : Nat) (m : Int), vs = [.ref a, .int m] ∧ StOk H a c l n ∧ n ≤ 1000 ∧ 0 < m ∧ m < 1000000000 ∧ ∀ (r : Int) (H' : Hp), 0 ≤ r → r < m → StOk H' a c l (n + 1) → Up a l H H' → Q (.int r) H'
theorem sc__law_draw : FnScope ["_law_state", "_law_limit", "_law_at", "_law_place", "_law_left", "_law_number"] ["_law_state", "_law_limit"] (defScope s__law_draw) := ⟨rfl, rfl, rfl, by decide +kernel, rfl, by decide +kernel, by decide +kernel⟩
theorem ok__law_draw (T : TxA K mg) : Dok P w K mg base "_law_draw" 2 ["_law_state", "_law_limit"] spDraw := by
  refine dokR T.t__law_draw sc__law_draw (fun _ _ _ _ _ _ us hl => match us, hl with | [_, _], _ => rfl) (fun vs H Q E h => ?_) ?_
  · obtain ⟨a, c, l, n, m, rfl, _⟩ := h
    rfl
  · intro f cdv A outer s H vs Q E hr h
    obtain ⟨a, c, l, n, m, rfl, st, hn, hm1, hm2, q⟩ := h
    obtain ⟨cells, lefts, hc, hl, e1, e2, e3⟩ := st.ce
    have dk := st.dk
    have nac : c ≠ a := fun z => by
      rw [z, dk] at hc
      cases hc
    have nal : l ≠ a := fun z => by
      rw [z, dk] at hl
      cases hl
    have S := sc__law_draw
    have hu : A.units + 3 + 1 < cLine := by have := hr.un; show _ < _; have h' : A.units + 3 + 16 * 1 + 200 < cLine := this; omega
    refine wSs_ex ⟨_, pss_cons (ps_set (i := 2) S.nd rfl (Or.inl rfl) (pe_dget hu (pe_var (i := 0) rfl (Or.inl rfl)) pe_str (by exact fun _ _ => rfl)))
      (pss_cons (ps_dput hu (pe_var (i := 0) rfl (Or.inl rfl)) pe_str (pe_op op_add (pe_var (i := 2) rfl (Or.inl rfl)) pe_int) rfl)
      (pss_cons (ps_set (i := 3) S.nd rfl (Or.inl rfl) (pe_op op_mod (pe_callTy call_int1 rfl T.n_int (by decide +kernel) (pa_cons (pe_var (i := 2) rfl (Or.inl rfl)) pa_nil)) (pe_callB call_len_seq rfl T.n_len PySem.boot_len (pa_cons (pe_dget hu (pe_var (i := 0) rfl (Or.inl rfl)) pe_str (by exact fun _ _ => rfl)) pa_nil))))
      (pss_cons (ps_set (i := 4) S.nd rfl (Or.inl rfl) (pe_ix ix_list (pe_dget hu (pe_var (i := 0) rfl (Or.inl rfl)) pe_str (by exact fun _ _ => rfl)) (pe_var (i := 3) rfl (Or.inl rfl)) (by exact fun _ _ => rfl)))
      pss_w))), ?_⟩
    have g1 : DGet H a (.str "at") (some (.int (n : Nat))) := by
      have z := DGet.k (k := .inr "at") dk
      rw [get_at] at z
      exact z
    have sz : (stK c l n).length < sizeLine := by show (3 : Nat) < sizeLine; rw [sizeLine_eq]; omega
    refine ⟨_, rfl, a, _, rfl, g1, ?_⟩
    have dput : DPut H a (.str "at") (.int ((n : Nat) + 1)) (upd H a (.dK (stK c l (n + 1)))) := by
      have z := DPut.k (k := .inr "at") (v := .int ((n + 1 : Nat) : Int)) dk sz
      rw [put_at] at z
      exact z
    refine ⟨_, rfl, _, _, rfl, rfl, _, rfl, a, _, rfl, dput, ?_⟩
    generalize hH1 : upd H a (.dK (stK c l (n + 1))) = H1
    have dk1 : H1 a = some (.dK (stK c l (n + 1))) := by rw [← hH1]; exact upd_same
    have hc1 : H1 c = some (.lst (cells.map V.int)) := by rw [← hH1, upd_ne nac]; exact hc
    have hl1 : H1 l = some (.lst (lefts.map V.int)) := by rw [← hH1, upd_ne nal]; exact hl
    have st1 : StOk H1 a c l (n + 1) := ⟨dk1, ⟨cells, lefts, hc1, hl1, e1, e2, e3⟩, st.ncl⟩
    have up1 : Up a l H H1 := fun b o h1 h2 h3 => by rw [← hH1, upd_ne h1]; exact h3
    have g2 : DGet H1 a (.str "cells") (some (.ref c)) := by
      have z := DGet.k (k := .inr "cells") dk1
      rw [get_cells] at z
      exact z
    have g3 : DGet H1 a (.str "lefts") (some (.ref l)) := by
      have z := DGet.k (k := .inr "lefts") dk1
      rw [get_lefts] at z
      exact z
    have plt : n % cells.length < cells.length := Nat.mod_lt _ e2
    have cast1 : (n : Int) % ((cells.map V.int).length : Int) = ((n % cells.length : Nat) : Int) := by rw [List.length_map]; omega
    refine ⟨_, rfl, .inl ⟨(n : Nat), rfl, _, rfl, a, _, rfl, g2, c, _, rfl, .inl (SqL.of hc1), _, _, rfl, rfl, by rw [List.length_map]; omega, ?_⟩⟩
    have elem : ∀ {zs : List Int} {i : Nat}, i < zs.length → ∃ z, atI (zs.map V.int) ((i : Nat) : Int) = some (V.int z) := fun {zs i} hi => by
      exact ⟨zs[i], atI_nat (by rw [List.getElem?_map, List.getElem?_eq_getElem hi]; rfl)⟩
    obtain ⟨left, hleft⟩ := elem (zs := lefts) (i := n % cells.length) (by omega)
    obtain ⟨cell, hcell⟩ := elem (zs := cells) (i := n % cells.length) plt
    refine ⟨_, rfl, a, _, rfl, g3, _, rfl, l, _, _, _, rfl, rfl, SqL.of hl1, (by rw [cast1]; exact hleft), ?_⟩
    refine wSs_ex ⟨_, pss_cons (ps_if (pt_cmpR op_gt (pe_var (i := 4) rfl (Or.inl rfl)) pe_int (nomark _))
      (pss_cons (ps_asg (pe_op op_fdiv (pe_var (i := 4) rfl (Or.inl rfl)) (pe_var (i := 1) rfl (Or.inl rfl))) (pg_sub (pe_dget hu (pe_var (i := 0) rfl (Or.inl rfl)) pe_str (by exact fun _ _ => rfl)) (pe_var (i := 3) rfl (Or.inl rfl)) set_list))
        (pss_one (ps_ret (pe_op op_mod (pe_callTy call_int1 rfl T.n_int (by decide +kernel) (pa_cons (pe_var (i := 4) rfl (Or.inl rfl)) pa_nil)) (pe_var (i := 1) rfl (Or.inl rfl)))))) pss_nil) pss_w, ?_⟩
    refine ⟨_, rfl, _, _, rfl, rfl, _, rfl, ?_⟩
    have mlt : ∀ z : Int, 0 ≤ z % m ∧ z % m < m := fun z => ⟨Int.emod_nonneg _ (by omega), Int.emod_lt_of_pos _ hm1⟩
    by_cases hpos : 0 < left
    · refine iteP hpos ?_
      refine ⟨_, rfl, _, rfl, _, _, rfl, rfl, ⟨hm1, by omega⟩, _, rfl, a, _, rfl, g3, _, rfl, l, _, _, n % cells.length, rfl, rfl, hl1, (by rw [cast1, List.length_map]; exact ixN_nat (by omega)), ?_⟩
      refine ⟨_, rfl, .inl ⟨left, rfl, _, rfl, _, _, rfl, rfl, hm1, ?_⟩⟩
      refine q _ _ (mlt left).1 (mlt left).2 ⟨?_, ⟨cells, lefts.set (n % cells.length) (left / m), ?_, ?_, by rw [List.length_set]; exact e1, e2, e3⟩, st.ncl⟩ fun b o h1 h2 h3 => ?_
      · rw [upd_ne (Ne.symm nal)]
        exact dk1
      · rw [upd_ne st.ncl]
        exact hc1
      · rw [upd_same, List.map_set]
      · rw [upd_ne h2]
        exact up1 b o h1 h2 h3
    · refine iteN hpos ?_
      have M := ok__law_mixed (P := P) (w := w) (base := base) T
      refine wSs_ex ⟨_, pss_cons (ps_set (i := 5) S.nd rfl (Or.inl rfl) (pe_mix M hr (pe_mix M hr (pe_ix ix_list (pe_dget hu (pe_var (i := 0) rfl (Or.inl rfl)) pe_str (by exact fun _ _ => rfl)) (pe_var (i := 3) rfl (Or.inl rfl)) (by exact fun _ _ => rfl)) (pe_var (i := 2) rfl (Or.inl rfl))) (pe_op op_add pe_int (pe_var (i := 2) rfl (Or.inl rfl)))))
        (pss_one (ps_ret (pe_op op_mod (pe_op op_fdiv (pe_callTy call_int1 rfl T.n_int (by decide +kernel) (pa_cons (pe_op op_add (pe_op op_mul (pe_var (i := 5) rfl (Or.inl rfl)) pe_int) (pe_mix M hr (pe_var (i := 5) rfl (Or.inl rfl)) (pe_op op_add pe_int (pe_var (i := 2) rfl (Or.inl rfl))))) pa_nil)) pe_int) (pe_var (i := 1) rfl (Or.inl rfl))))), ?_⟩
      refine ⟨_, rfl, a, _, rfl, g2, _, rfl, c, _, _, _, rfl, rfl, SqL.of hc1, (by rw [cast1]; exact hcell), _, rfl, mix_ok (E := fun _ _ _ => False) (by omega) (by omega) fun H2 s2 => ?_⟩
      refine ⟨_, rfl, _, _, rfl, rfl, mix_ok (E := fun _ _ _ => False) (by omega) (by omega) fun H3 s3 => ?_⟩
      generalize hx : mixV (mixV cell (n : Nat)) (40 + (n : Nat)) = x
      have lx : 0 ≤ x ∧ x < 2147483629 := by rw [← hx]; exact mixV_lt _ _
      refine ⟨_, rfl, _, _, rfl, rfl, .inl ⟨by omega, by omega⟩, _, rfl, _, rfl, _, _, rfl, rfl, mix_ok (E := fun _ _ _ => False) (by omega) (by omega) fun H4 s4 => ?_⟩
      have s5 := (s2.trans s3).trans s4
      refine ⟨_, _, rfl, rfl, .inl ⟨_, rfl, _, _, rfl, rfl, ⟨by decide, by decide⟩, _, rfl, _, _, rfl, rfl, hm1, ?_⟩⟩
      exact q _ H4 (mlt _).1 (mlt _).2 (st1.same s5) (up1.same s5)
end
end Bk

set_option Elab.async false
set_option linter.all false
set_option maxRecDepth 100000
set_option maxHeartbeats 2000000
namespace Bk
open PySem PySem.Spec PyProof.Rows L2
theorem sqL_up {K : PySem.W.Frag} {H H' : Hp} {a l r : Addr} {xs : List V} (u : Up a l H H') (h1 : r ≠ a) (h2 : r ≠ l) (h : SqL K H r xs) : SqL K H' r xs := by
  rcases h with (h | ⟨o, h⟩) | h
  · exact .inl (.inl (u _ _ h1 h2 h))
  · exact .inl (.inr ⟨o, u _ _ h1 h2 h⟩)
  · exact .inr h
section
variable {P : Program} {w : World} {K : PySem.W.Frag} {mg : Str → Option Value} {base : Heap}
/-- one of a list is drawn -/
def spOf (K : PySem.W.Frag) : Sp := fun vs H Q _ => ∃ (a c l r : Addr) (n : Nat) (xs : List V), vs = [.ref a, .ref r] ∧ StOk H a c l n ∧ n ≤ 1000 ∧ SqL K H r xs ∧ r ≠ a ∧ r ≠ l ∧ 0 < xs.length ∧ xs.length < 1000000 ∧
  ∀ (i : Nat) (v : V) (H' : Hp), xs[i]? = some v → StOk H' a c l (n + 1) → Up a l H H' → Q v H'
theorem sc__law_of : FnScope ["_law_state", "_law_some"] ["_law_state", "_law_some"] (defScope s__law_of) := ⟨rfl, rfl, rfl, by decide +kernel, rfl, by decide +kernel, by decide +kernel⟩
theorem ok__law_of (T : TxA K mg) : Dok P w K mg base "_law_of" 3 ["_law_state", "_law_some"] (spOf K) := by
  refine dokR T.t__law_of sc__law_of (fun _ _ _ _ _ _ us hl => match us, hl with | [_, _], _ => rfl) (fun vs H Q E h => ?_) ?_
  · obtain ⟨a, c, l, r, n, xs, rfl, _⟩ := h
    rfl
  · intro f cdv A outer s H vs Q E hr h
    obtain ⟨a, c, l, r, n, xs, rfl, st, hn, hq, n1, n2, h1, h2, q⟩ := h
    obtain ⟨fd, F1, hb⟩ := (ok__law_draw (P := P) (w := w) (base := base) T).ex
    have D := ok__law_draw (P := P) (w := w) (base := base) T
    refine wSs_ex ⟨_, pss_one (ps_ret (pe_ix ix_list (pe_var (i := 1) rfl (Or.inl rfl)) (pe_call F1 hr rfl D.gl D.kp hb .nil pass0 (pa_cons (pe_var (i := 0) rfl (Or.inl rfl)) (pa_cons (pe_callB call_len_seq rfl T.n_len PySem.boot_len (pa_cons (pe_var (i := 1) rfl (Or.inl rfl)) pa_nil)) pa_nil))) (by exact fun _ _ => rfl))), ?_⟩
    refine ⟨_, rfl, _, rfl, _, rfl, r, xs, rfl, .inl hq, a, c, l, n, (xs.length : Nat), rfl, st, hn, by omega, by omega, fun z H' z1 z2 st' up => ?_⟩
    obtain ⟨i, rfl⟩ := Int.eq_ofNat_of_zero_le z1
    have hi : i < xs.length := by omega
    exact ⟨r, xs, _, xs[i], rfl, rfl, sqL_up up n1 n2 hq, atI_nat (List.getElem?_eq_getElem hi), q i _ H' (List.getElem?_eq_getElem hi) st' up⟩
/-! ### _law_begin -/
def spBegin (K : PySem.W.Frag) : Sp := fun vs H Q _ => ∃ (r : Addr) (ns : List Int), vs = [.ref r] ∧ SqL K H r (ns.map V.int) ∧ ns.length ≤ 900 ∧ ∀ (a c l : Addr) (H' : Hp), H a = none → H c = none → H l = none → Same H H' → StOk H' a c l 0 → Q (.ref a) H'
theorem sc__law_begin : FnScope ["_law_script", "_law_cells_so", "_law_cell"] ["_law_script"] (defScope s__law_begin) := ⟨rfl, rfl, rfl, by decide +kernel, rfl, by decide +kernel, by decide +kernel⟩
theorem shaped_ints (ns : List Int) : SeqAt.shaped (.list (ns.map PyData.int)) = true := by
  have h1 : ∀ ns : List Int, PyData.canLayAll0 (ns.map PyData.int) = true := fun ns => by
    induction ns with
    | nil => simp [PyData.canLayAll0]
    | cons n ns ih => simp [PyData.canLayAll0, PyData.canLay0, ih]
  have h2 : ∀ ns : List Int, PyData.depthAll (ns.map PyData.int) = 0 := fun ns => by
    induction ns with
    | nil => simp [PyData.depthAll]
    | cons n ns ih => simp [PyData.depthAll, PyData.depth, ih]
  unfold SeqAt.shaped
  simp [PyData.canLay0, PyData.depth, h1, h2]
theorem imm_ints (ns : List Int) : immAll (ns.map PyData.int) = true := immAll_map fun _ _ => imm_int _
def begL (ns : List Int) : List Int := if ns = [] then [0] else ns
def lefL (ns : List Int) : List Int := ns.map fun i => if (10 : Int) ^ 18 ≤ i then i else 0
theorem ok__law_begin (T : TxA K mg) : Dok P w K mg base "_law_begin" 1 ["_law_script"] (spBegin K) := by
  refine dokR T.t__law_begin sc__law_begin (fun _ _ _ _ _ _ us hl => match us, hl with | [_], _ => rfl) (fun vs H Q E h => ?_) ?_
  · obtain ⟨r, ns, rfl, _⟩ := h
    rfl
  · intro f cdv A outer s H vs Q E hr h
    obtain ⟨r, ns, rfl, hq, hlen, q⟩ := h
    have S := sc__law_begin
    have s0 : Sd K H [.rl (ns.map PyData.int), .no, .no] (L2.start ["_law_script", "_law_cells_so", "_law_cell"] [.ref r]) H :=
      sd_start (N := ["_law_script", "_law_cells_so", "_law_cell"]) (ks := [.sl (ns.map PyData.int)]) (.cons ⟨imm_ints ns, .lst hq (DpAll.of_ints ns)⟩ .nil)
    have hsame : ∀ b : Bool, b = (!PyData.eqv (.list (ns.map PyData.int)) (.list [])) → (b = true ↔ ns ≠ []) := fun b hb => by
      subst hb
      cases ns with
      | nil => simp [PyData.eqv, PyData.eqvAll]
      | cons n ns => simp [PyData.eqv, PyData.eqvAll]
    have st1 : SK (cxOf CX0 P w K mg base ["_law_script", "_law_cells_so", "_law_cell"] "_law_begin" (defScope s__law_begin) f cdv A outer s H E).nox ((defBody s__law_begin).getD 0 (.Pass ⟨0, 0, 0, 0⟩)) [.rl (ns.map PyData.int), .no, .no] (fun G' => G' = [.rl (ns.map PyData.int), .ml ((begL ns).map PyData.int), .no]) (fun _ => False) := by
      refine sk_setN 1 (ek_if (tk_neD hr.units (ek_rl 0) (ek_lst (ds := []) ak_nil) rfl rfl (shaped_ints ns) (by decide +kernel)) (fun e => ?_) (fun e => ?_)) S.nd
      · have z := (hsame _ rfl).mp e
        unfold begL
        rw [if_neg z]
        exact ek_lstL (ek_rl 0) T.n_list
      · have z : ns = [] := by
          cases ns with
          | nil => rfl
          | cons n ns => simp [PyData.eqv, PyData.eqvAll] at e
        unfold begL
        rw [if_pos z]
        exact ek_lst (ds := [.int 0]) (ak_cons ek_int ak_nil)
    refine wSs_ex ⟨_, pss_cons ps_w pss_w, st1 H _ H _ s0 ⟨fun P1 G1 σ1 H1 e1 n1 s1 => ?_, fun _ _ _ z => z.elim⟩⟩
    subst n1
    obtain ⟨c, xs, hs1, _, hPc, hHc, hdc⟩ := s1.ml (i := 1) (ds := (begL ns).map PyData.int) rfl
    rw [DpAll.ints hdc] at hHc
    have lc : ∀ {tg elt : Expr} {p1 p2 p3 : Pos}, True := fun {_ _ _ _ _} => True.intro
    refine wSs_ex ⟨_, pss_one (ps_ret (pe_disp (pps_cons pe_str (pe_var (i := 1) rfl (Or.inl rfl)) (pps_cons pe_str pe_w (pps_cons pe_str pe_int pps_nil))) rfl rfl (by intro z; cases z) (by decide))), fun p hp => ⟨_, hs1, ?_⟩⟩
    have hcp : c ≠ p := fun z => by
      rw [z, hp] at hHc
      cases hHc
    refine (ek_lc (own := [("_law_cell", 2)]) (T := .one 2) (l := begL ns) (en := PyData.int) (g := fun i => some (.int (if (10 : Int) ^ 18 ≤ i then i else 0))) (ik_ml 1) S.nd ⟨blkOk_by (by kernel_rfl), rfl, fun _ _ _ _ _ => gk_one 2 S.nd rfl, fun i _ => ⟨_, rfl, fun _ _ _ _ _ => tsk_nil, fun r hr' s2 H2 C2 cl2 fp2 => ?_⟩, ?_⟩) P1 σ1 _ _ (s1.later (same_upd hp)) fun v H2 e2 o => ?_
    · cases hr'
      refine ek_if (tk_ge (ek_im 2) (ek_pow ek_int ek_int ⟨by decide, by decide, by decide⟩)) (fun e => ?_) (fun e => ?_)
      · have z : (10 : Int) ^ 18 ≤ i := of_decide_eq_true e
        rw [if_pos z]
        exact ek_im 2
      · have z : ¬ (10 : Int) ^ 18 ≤ i := of_decide_eq_false e
        rw [if_neg z]
        exact ek_int
    · unfold begL
      split
      · show (1 : Nat) < sizeLine
        rw [sizeLine_eq]
        omega
      · rw [sizeLine_eq]
        omega
    · obtain ⟨im, l, ys, rfl, hl0, hl2, hdl⟩ := o
      have hp2 : H2 p = some (.dK []) := e2 _ _ upd_same
      have hc2 : H2 c = some (.lst ((begL ns).map V.int)) := e2 _ _ (by rw [upd_ne hcp]; exact hHc)
      have hlp : l ≠ p := fun z => by
        rw [z, upd_same] at hl0
        cases hl0
      have hlc : c ≠ l := fun z => by
        rw [← z, upd_ne hcp, hHc] at hl0
        cases hl0
      have efm : (begL ns).filterMap (fun i => some (PyData.int (if (10 : Int) ^ 18 ≤ i then i else 0))) = (lefL (begL ns)).map PyData.int := by
        unfold lefL
        rw [List.map_map]
        induction begL ns with
        | nil => rfl
        | cons i is ih =>
          rw [List.filterMap_cons, List.map_cons]
          exact congrArg _ ih
      rw [efm] at hdl
      rw [DpAll.ints hdl] at hl2
      refine ⟨hp2, stK c l 0, rfl, by show 3 ≤ 15; decide, ?_⟩
      have hm : mergeK [] (stK c l 0) = stK c l 0 := by simp [mergeK, stK, putK, key_ne.1, key_ne.2.1, key_ne.2.2]
      rw [hm]
      have eH := (s1.same).trans (same_upd (o := .dK []) hp)
      refine q p c l _ ?_ ?_ ?_ ?_ ⟨upd_same, ⟨begL ns, lefL (begL ns), by rw [upd_ne hcp]; exact hc2, by rw [upd_ne hlp]; exact hl2, by unfold lefL; rw [List.length_map], ?_, ?_⟩, hlc⟩
      · exact (e1.trans s1.same).free hp
      · exact e1.free hPc
      · have z := (e1.trans eH).free hl0
        exact z
      · exact Same.write ((e1.trans eH).trans e2) ((e1.trans s1.same).free hp)
      · unfold begL
        split
        · decide
        · rename_i hne
          exact List.length_pos_iff.mpr hne
      · unfold begL
        split
        · decide
        · omega
end
end Bk

set_option Elab.async false
set_option linter.all false
set_option maxRecDepth 100000
/-! a body, up to its last statement -/
namespace Bk
open PySem PySem.Spec PyProof.Rows L2
def CP (X : Cx) (sts : List Stmt) (k : MS) (tail : List Stmt) : Prop := ∀ (G Gf : Cn), k G = some (.go Gf) → ∀ (P : Hp) (σ : L2.St) (H : Hp) (D : Ends), Sd X.K P G σ H → (∀ P' σ' H', Same P P' → Sd X.K P' Gf σ' H' → wSs X tail D σ' H') → wSs X sts D σ H
section
variable {X : Cx} {st : Stmt} {sts tail : List Stmt} {m k : MS}
theorem cp_one (h : SM X st m) : CP X (st :: tail) m tail := fun G Gf hg P σ H D s q =>
  wSs_ex ⟨_, pss_cons ps_w pss_w, h G _ hg (fun G' => G' = Gf) (fun _ => False) (fun G' e => by cases e; rfl) (fun k e => by cases e) P σ H _ s ⟨fun P' G' σ' H' e n s' => q P' σ' H' e (n ▸ s'), fun _ _ _ z => z.elim⟩⟩
theorem cp_cons (h : SM X st m) (r : CP X sts k tail) : CP X (st :: sts) (sCons m k) tail := fun G Gf hg P σ H D s q => by
  obtain ⟨z, h1, h2⟩ := bnd_some hg
  cases z with
  | go G1 =>
    exact wSs_ex ⟨_, pss_cons ps_w pss_w, h G _ h1 (fun G' => G' = G1) (fun _ => False) (fun G' e => by cases e; rfl) (fun k e => by cases e) P σ H _ s ⟨fun P' G' σ' H' e n s' => r G1 Gf h2 P' σ' H' D (n ▸ s') fun P2 σ2 H2 e2 s2 => q P2 σ2 H2 (e.trans e2) s2, fun _ _ _ z => z.elim⟩⟩
  | ret k => cases h2
end
end Bk

set_option Elab.async false
set_option linter.all false
set_option maxRecDepth 100000
namespace Bk
open PySem PySem.Spec PyProof.Rows L2
section
variable {P : Program} {w : World} {K : PySem.W.Frag} {mg : Str → Option Value} {base : Heap} {CB CG : Addr}
theorem sc__law_tried : FnScope ["_law_near_so", "_law_inside_so", "_law_pairs", "_law_found", "_law_sizes_so", "_law_outer", "_law_tables_so", "_law_unit", "_law_table_so", "_law_pick"] ["_law_near_so"] (defScope s__law_tried) := ⟨rfl, rfl, rfl, by decide +kernel, rfl, by decide +kernel, by decide +kernel⟩
def b__law_tried : MS := sCons (sPar3 1 2 3 (mCall m__law_inside (aCons (mVar 0) (aCons (mVar 0) (aNil)))) (mLst (aNil)) (mLst (aNil))) (sCons (sSet 4 (mLst (aNil))) (sCons (sFor (.one 5) (iVar 1) (sApp 4 (m1 sumV (mLc [9] (.one 9) (iVal (m2 ixV (mVar 5) (mK (.im (.int 1))))) (tYesM) (m2 ixV (mVar 0) (mVar 9)))))) (sCons (sSet 6 (mCall m__law_tables (aCons (m1 tupV (mVar 4)) (aCons (mVar 0) (aNil))))) (sFor (.one 7) (iRange (m1 lenV (mVar 0))) (sFor (.one 8) (iVar 6) (sCons (sApp 2 (mTup (aCons (mVar 7) (aCons (mVar 8) (aNil))))) (sIf (t1 vT (mCall m__law_is_book (aCons (mVar 0) (aCons (mVar 1) (aCons (mVar 7) (aCons (mVar 8) (aNil))))))) (sApp 3 (mTup (aCons (mVar 7) (aCons (mVar 8) (aNil))))) (sNil))))))))
def m__law_tried : List Vk → Option (List PyData × List PyData) := defP 1 10 2 3 b__law_tried
theorem cp__law_tried (T : TxA K mg) {f : Addr} {cdv : Value} {A : Around} {outer : List Env} {s : Shared} {H : Hp} {E : XK} (hr : Room 4 (A.deeper (envOfC "_law_tried" (defScope s__law_tried) s.heap.objs.size f cdv))) :
    CP (cxOf CX0 P w K mg base ["_law_near_so", "_law_inside_so", "_law_pairs", "_law_found", "_law_sizes_so", "_law_outer", "_law_tables_so", "_law_unit", "_law_table_so", "_law_pick"] "_law_tried" (defScope s__law_tried) f cdv A outer s H E).nox (defBody s__law_tried) b__law_tried [(defBody s__law_tried).getD 5 (.Pass ⟨0, 0, 0, 0⟩)] :=
  cp_cons (sm_par3 1 2 3 (em_call (ok__law_inside T) hr (am_cons (em_var 0) (am_cons (em_var 0) (am_nil)))) (em_lst (am_nil)) (em_lst (am_nil)) sc__law_tried.nd) (cp_cons (sm_set 4 (em_lst (am_nil)) sc__law_tried.nd) (cp_cons (sm_for (T := (.one 5)) (im_var 1) (gk_one 5 sc__law_tried.nd rfl) (sms_one (sm_app 4 (em_sum (em_lc (own := [("_law_pick", 9)]) (T := (.one 9)) (im_val (em_ix (em_var 5) (em_int))) sc__law_tried.nd (fun _ _ _ _ _ => gk_one 9 sc__law_tried.nd rfl) (bts_nil) (fun _ _ _ _ _ => em_ix (em_var 0) (em_var 9)) (by kernel_rfl)) T.n_sum)))) (cp_cons (sm_set 6 (em_call (ok__law_tables T) hr (am_cons (em_tuple (em_var 4) T.n_tuple) (am_cons (em_var 0) (am_nil)))) sc__law_tried.nd) (cp_one (sm_for (T := (.one 7)) (im_range (em_len (em_var 0) T.n_len) T.n_range) (gk_one 7 sc__law_tried.nd rfl) (sms_one (sm_for (T := (.one 8)) (im_var 6) (gk_one 8 sc__law_tried.nd rfl) (sms_cons (sm_app 2 (em_tup (am_cons (em_var 7) (am_cons (em_var 8) (am_nil))))) (sms_one (sm_if (tm_val (em_call (ok__law_is_book T) hr (am_cons (em_var 0) (am_cons (em_var 1) (am_cons (em_var 7) (am_cons (em_var 8) (am_nil))))))) (sms_one (sm_app 3 (em_tup (am_cons (em_var 7) (am_cons (em_var 8) (am_nil)))))) (sms_nil)))))))))))
end
end Bk

set_option Elab.async false
set_option linter.all false
set_option maxRecDepth 100000
set_option maxHeartbeats 2000000
namespace Bk
open PySem PySem.Spec PyProof.Rows L2
section
variable {P : Program} {w : World} {K : PySem.W.Frag} {mg : Str → Option Value} {base : Heap}
def spTried (K : PySem.W.Frag) : Sp := fun vs H Q _ => ∃ (near : PyData) (ps fs : List PyData) (v : V), vs = [v] ∧ imm near = true ∧ Dp K H v near ∧ m__law_tried [.im near] = some (ps, fs) ∧
  ∀ (p r1 r2 : Addr) (H' : Hp) (xs ys : List V), H p = none → H r1 = none → H r2 = none → r1 ≠ r2 → Same H H' → H' p = some (.tup [.ref r1, .ref r2]) → H' r1 = some (.lst xs) → H' r2 = some (.lst ys) → immAll ps = true → immAll fs = true → DpAll K H' xs ps → DpAll K H' ys fs → Q (.ref p) H'
theorem ok__law_tried (T : TxA K mg) : Dok P w K mg base "_law_tried" 5 ["_law_near_so"] (spTried K) := by
  refine dokR T.t__law_tried sc__law_tried (fun _ _ _ _ _ _ us hl => match us, hl with | [_], _ => rfl) (fun vs H Q E h => ?_) ?_
  · obtain ⟨near, ps, fs, v, rfl, _⟩ := h
    rfl
  · intro f cdv A outer s H vs Q E hr h
    obtain ⟨near, ps, fs, v, rfl, im, hd, hm, q⟩ := h
    unfold m__law_tried defP at hm
    obtain ⟨_, h1⟩ := grd_some hm
    obtain ⟨r, h2, h3⟩ := bnd_some h1
    cases r with
    | ret k => cases h3
    | go Gf =>
      have h3' : (match Gf[2]?, Gf[3]? with
        | some (Kd.ml ds), some (Kd.ml es) => some (ds, es)
        | _, _ => none) = some (ps, fs) := h3
      split at h3'
      · rename_i ds es g2 g3
        cases h3'
        have s0 := sd_start (K := K) (H := H) (N := ["_law_near_so", "_law_inside_so", "_law_pairs", "_law_found", "_law_sizes_so", "_law_outer", "_law_tables_so", "_law_unit", "_law_table_so", "_law_pick"]) (vs := [v]) (ks := [.im near]) (.cons ⟨im, hd⟩ .nil)
        refine cp__law_tried T hr _ Gf h2 H _ H _ s0 fun P' σ' H' e s' => ?_
        obtain ⟨r1, xs, a1, a2, a3, a4, a5⟩ := s'.ml g2
        obtain ⟨r2, ys, b1, b2, b3, b4, b5⟩ := s'.ml g3
        have ne : r1 ≠ r2 := fun z => s'.dis 2 3 _ _ r1 (by decide) g2 g3 a1 (by rw [b1, z])
        refine wSs_ex ⟨_, pss_one (ps_ret (pe_tup (pa_cons (pe_var (i := 2) rfl (Or.inl rfl)) (pa_cons (pe_var (i := 3) rfl (Or.inl rfl)) pa_nil)))), ⟨_, a1, _, b1, by show 2 ≤ sizeLine; rw [sizeLine_eq]; omega, fun p hp => ?_⟩⟩
        have n1 : r1 ≠ p := fun z => by
          rw [z, hp] at a4
          cases a4
        have n2 : r2 ≠ p := fun z => by
          rw [z, hp] at b4
          cases b4
        have eH := e.trans s'.same
        exact q p r1 r2 _ xs ys (eH.free hp) (e.free a3) (e.free b3) ne (eH.trans (same_upd hp)) upd_same (by rw [upd_ne n1]; exact a4) (by rw [upd_ne n2]; exact b4) a2 b2 (DpAll.same (same_upd hp) _ _ a5) (DpAll.same (same_upd hp) _ _ b5)
      · cases h3'
end
end Bk

set_option Elab.async false
set_option linter.all false
set_option maxRecDepth 100000
set_option maxHeartbeats 2000000
/-! what stands while the state goes on -/
namespace Bk
open PySem PySem.Spec PyProof.Rows L2
structure RI (K : PySem.W.Frag) (T : List (Addr × Str)) (G : Cn) (σ : L2.St) (H : Hp) (a c l : Addr) (n : Nat) : Prop where
  sd : ∃ P : Hp, Sd K P G σ H ∧ P a = none ∧ P l = none ∧ ∀ b ps, P b ≠ some (.tbl ps)
  nm : NoMl G
  st : StOk H a c l n
  tb : LamX.Tabs T H
  ap : ∀ (i : Nat) (ds : List PyData) (q : Addr), G[i]? = some (.rl ds) → σ[i]? = some (some (.ref q)) → q ≠ a ∧ q ≠ l
section
variable {K : PySem.W.Frag} {T : List (Addr × Str)} {G : Cn} {σ : L2.St} {H H' : Hp} {a c l : Addr} {n m : Nat}
theorem RI.later (R : RI K T G σ H a c l n) (e : Same H H') : RI K T G σ H' a c l n := by
  obtain ⟨P, s, p1, p2, p3⟩ := R.sd
  exact ⟨⟨P, s.later e, p1, p2, p3⟩, R.nm, R.st.same e, R.tb.ext (fun b o h => e b o h), R.ap⟩
/-- a slot of a kind that tells of no list of one's own -/
theorem sd_hold {P : Hp} (s : Sd K P G σ H) (nm : NoMl G) (e : Same P H') (t : Tst K H H') : Sd K P G σ H' := by
  refine ⟨s.len, e, fun i k h => ?_, fun i j ds es a _ hi => (nm i ds hi).elim⟩
  have z := s.slot i k h
  cases k with
  | no => trivial
  | at_ v => exact z
  | im d =>
    obtain ⟨v, z1, z2, z3⟩ := z
    exact ⟨v, z1, z2, Dp.keep t d v z2 z3⟩
  | rl ds => exact z
  | ml ds => exact (nm i ds h).elim
theorem RI.up (R : RI K T G σ H a c l n) (u : Up a l H H') (st : StOk H' a c l m) : RI K T G σ H' a c l m := by
  obtain ⟨P, s, p1, p2, p3⟩ := R.sd
  have dk := R.st.dk
  obtain ⟨cells, lefts, hc, hl, _⟩ := R.st.ce
  have other : ∀ {b : Addr} {o : HO}, H b = some o → (∀ kvs, o ≠ .dK kvs) → (∀ xs, o ≠ .lst xs) → H' b = some o := fun {b o} h h1 h2 => by
    refine u b o (fun z => ?_) (fun z => ?_) h
    · rw [z, dk] at h
      cases h
      exact h1 _ rfl
    · rw [z, hl] at h
      cases h
      exact h2 _ rfl
  refine ⟨⟨P, sd_hold s R.nm (fun b o h => u b o (fun z => ?_) (fun z => ?_) (s.same b o h)) (fun b xs h => ?_), p1, p2, p3⟩, R.nm, st, fun p hp => ?_, R.ap⟩
  · rw [z, p1] at h
    cases h
  · rw [z, p2] at h
    cases h
  · rcases h with (h | ⟨o, h⟩) | h
    · exact .inl (.inl (other h (fun _ z => by cases z) fun _ z => by cases z))
    · exact .inl (.inr ⟨o, other h (fun _ z => by cases z) fun _ z => by cases z⟩)
    · exact .inr h
  · obtain ⟨ps, h1, h2, h3⟩ := R.tb p hp
    refine ⟨ps, other h1 (fun _ z => by cases z) (fun _ z => by cases z), h2, fun pos cv hc => ?_⟩
    obtain ⟨c', e1, e2⟩ := h3 pos cv hc
    exact ⟨c', e1, other e2 (fun _ z => by cases z) fun _ z => by cases z⟩
theorem RI.ext (R : RI K T G σ H a c l n) (e : LamX.ExtN H H') (tb : LamX.Tabs T H') : RI K T G σ H' a c l n := by
  obtain ⟨P, s, p1, p2, p3⟩ := R.sd
  obtain ⟨cells, lefts, h1, h2, h3⟩ := R.st.ce
  refine ⟨⟨P, sd_hold s R.nm (fun b o h => e b o (s.same b o h) fun ps z => p3 b ps (by rw [h, z])) (fun b xs h => ?_), p1, p2, p3⟩, R.nm, ⟨e _ _ R.st.dk (fun ps z => by cases z), ⟨cells, lefts, e _ _ h1 (fun ps z => by cases z), e _ _ h2 (fun ps z => by cases z), h3⟩, R.st.ncl⟩, tb, R.ap⟩
  rcases h with (h | ⟨o, h⟩) | h
  · exact .inl (.inl (e _ _ h fun ps z => by cases z))
  · exact .inl (.inr ⟨o, e _ _ h fun ps z => by cases z⟩)
  · exact .inr h
theorem RI.putIm (R : RI K T G σ H a c l n) {i : Nat} (hi : Nat.ble (i + 1) G.length = true) {v : V} {d : PyData} (h : imm d = true ∧ Dp K H v d) : RI K T (G.set i (.im d)) (σ.set i (some v)) H a c l n := by
  obtain ⟨P, s, p1, p2, p3⟩ := R.sd
  refine ⟨⟨P, s.putIm (Nat.le_of_ble_eq_true hi) h, p1, p2, p3⟩, noml_set R.nm i (fun _ z => by cases z), R.st, R.tb, ?_⟩
  intro j ds q h1 h2
  by_cases hj : i = j
  · subst hj
    rw [List.getElem?_set_self (Nat.le_of_ble_eq_true hi)] at h1
    cases h1
  · rw [List.getElem?_set_ne hj] at h1 h2
    exact R.ap j ds q h1 h2
/-- a list that is only read from now on -/
theorem RI.putL (R : RI K T G σ H a c l n) {i : Nat} (hi : Nat.ble (i + 1) G.length = true) {q : Addr} {xs : List V} {ds : List PyData} (n1 : q ≠ a) (n2 : q ≠ l) (hq : H q = some (.lst xs)) (im : immAll ds = true) (hd : DpAll K H xs ds) :
    RI K T (G.set i (.rl ds)) (σ.set i (some (.ref q))) H a c l n := by
  obtain ⟨P, s, p1, p2, p3⟩ := R.sd
  have dk := R.st.dk
  obtain ⟨cells, lefts, hc, hl, _⟩ := R.st.ce
  have e1 : Same (prot P H) (upd (prot P H) q (.lst xs)) := fun b o z => by
    by_cases hb : b = q
    · subst hb
      have y := prot_le s.same b o z
      rw [hq] at y
      cases y
      exact upd_same
    · rw [upd_ne hb]
      exact z
  have e2 : Same (upd (prot P H) q (.lst xs)) H := fun b o z => by
    by_cases hb : b = q
    · subst hb
      rw [upd_same] at z
      cases z
      exact hq
    · rw [upd_ne hb] at z
      exact prot_le s.same b o z
  have t : Tst K H (upd (prot P H) q (.lst xs)) := Tst.trans (prot_ts s.same) (Tst.same e1)
  have s2 := s.more (prot_same.trans e1) e2 fun i ds b h _ => (R.nm i ds h).elim
  refine ⟨⟨_, s2.put (k := .rl ds) (Nat.le_of_ble_eq_true hi) ⟨q, xs, rfl, im, SqL.of upd_same, DpAll.keep t _ _ im hd⟩ (fun _ z => by cases z), ?_, ?_, fun b ps z => ?_⟩, noml_set R.nm i (fun _ z => by cases z), R.st, R.tb, ?_⟩
  · rw [upd_ne (Ne.symm n1)]
    unfold prot
    rw [p1]
    show (match H a with
    | some (.tup xs) => some (.tup xs)
    | some (.frz o u) => some (.frz o u)
    | _ => none) = (none : Option HO)
    rw [dk]
  · rw [upd_ne (Ne.symm n2)]
    exact prot_none p2 hl
  · by_cases hb : b = q
    · rw [hb, upd_same] at z
      cases z
    · rw [upd_ne hb] at z
      unfold prot at z
      split at z
      · rename_i o hP
        exact p3 b ps (hP.trans z)
      · split at z <;> cases z
  · intro j ds' q' h1 h2
    by_cases hj : i = j
    · subst hj
      rw [List.getElem?_set_self (by rw [s.len]; exact Nat.le_of_ble_eq_true hi)] at h2
      cases h2
      exact ⟨n1, n2⟩
    · rw [List.getElem?_set_ne hj] at h1 h2
      exact R.ap j ds' q' h1 h2
/-- what is read at a place of data that stand -/
theorem RI.ek {X : Cx} {e : Expr} {k : Vk} {Q : VK} (hk : X.K = K) (h : EK X e G k) (R : RI K T G σ H a c l n) (q : ∀ v H', Same H H' → VOk K H H' v k → RI K T G σ H' a c l n → Q v H') : wE X e σ H Q := by
  subst hk
  obtain ⟨P, s, _⟩ := R.sd
  exact h P σ H Q s fun v H' e o => q v H' e o (R.later e)
theorem RI.em {X : Cx} {e : Expr} {m : MV} {k : Vk} {Q : VK} (hk : X.K = K) (h : EM X e m) (hm : m G = some k) (R : RI K T G σ H a c l n) (q : ∀ v H', Same H H' → VOk K H H' v k → RI K T G σ H' a c l n → Q v H') : wE X e σ H Q := RI.ek hk (h G k hm) R q
theorem RI.tk {X : Cx} {e : Expr} {t : Bool} {Q : Bool → Hp → Prop} (hk : X.K = K) (h : TK X e G t) (R : RI K T G σ H a c l n) (q : ∀ H', Same H H' → RI K T G σ H' a c l n → Q t H') : wT X e σ H Q := by
  subst hk
  obtain ⟨P, s, _⟩ := R.sd
  exact h P σ H Q s fun H' e => q H' e (R.later e)
/-- a slot's datum -/
theorem RI.im {i : Nat} {d : PyData} (R : RI K T G σ H a c l n) (h : G[i]? = some (.im d)) : ∃ v, σ[i]? = some (some v) ∧ imm d = true ∧ Dp K H v d := by
  obtain ⟨P, s, _⟩ := R.sd
  exact s.slot i _ h
theorem RI.at_ {i : Nat} {v : V} (R : RI K T G σ H a c l n) (h : G[i]? = some (.at_ v)) : σ[i]? = some (some v) := by
  obtain ⟨P, s, _⟩ := R.sd
  exact s.slot i _ h
theorem RI.rl {i : Nat} {ds : List PyData} (R : RI K T G σ H a c l n) (h : G[i]? = some (.rl ds)) : ∃ q xs, σ[i]? = some (some (.ref q)) ∧ immAll ds = true ∧ SqL K H q xs ∧ DpAll K H xs ds ∧ q ≠ a ∧ q ≠ l := by
  obtain ⟨P, s, p1, p2, p3⟩ := R.sd
  obtain ⟨q, xs, h1, h2, h3, h4⟩ := s.slot i _ h
  exact ⟨q, xs, h1, h2, s.same.seq h3, DpAll.same s.same _ _ h4, R.ap i ds q h h1⟩
end
end Bk

set_option Elab.async false
set_option linter.all false
set_option maxRecDepth 100000
/-! what is asked of the mirrors at a holder -/
namespace Bk
open PySem PySem.Spec PyProof.Rows L2
def shlOk (d : PyData) : Bool := match shl 8 d with
  | some k => Nat.ble k 16777216
  | none => false
theorem shlOk_ok {d : PyData} (h : shlOk d = true) : ∃ k, shl 8 d = some k ∧ k ≤ 16777216 := by
  unfold shlOk at h
  split at h
  · rename_i k hk
    exact ⟨k, hk, Nat.le_of_ble_eq_true h⟩
  · cases h
def isD (p : PyData) : PyData := .tuple [.str "is", p]
def bookD : PyData := .tuple [.str "book", .bool true]
def greatD : PyData := .tuple [.str "great", .int 400, .bool true]
def needB (h : PyData) (fs : List PyData) (p : PyData) : Bool := match m_need_book [.im h, .im p] with
  | some (.ok (.im d)) => sameD 6 d p && (fs.any (fun z => PyData.eqv z p) && shlOk (isD p))
  | some (.exc false _) => !fs.any (fun z => PyData.eqv z p)
  | _ => false
def pairOk (h : PyData) (fs : List PyData) (p : PyData) : Bool := SeqAt.shaped p && needB h fs p
def goodB (h : PyData) : Bool := match m__law_tried [.im h], m_all_books [.im h] with
  | some (ps, fs), some (.ok (.im (.tuple bs))) => allS (sameD 6) bs fs && (shlOk (.tuple fs) && (SeqAt.shaped (.list ps) && (SeqAt.shaped (.list fs) && (Nat.ble ps.length 900000 && (Nat.ble fs.length 900000 && (ps.all (pairOk h fs) && fs.all (pairOk h fs)))))))
  | _, _ => false
structure Good (h : PyData) (ps fs : List PyData) : Prop where
  tried : m__law_tried [.im h] = some (ps, fs)
  books : m_all_books [.im h] = some (.ok (.im (.tuple fs)))
  shown : ∃ k, shl 8 (.tuple fs) = some k ∧ k ≤ 16777216
  shp : SeqAt.shaped (.list ps) = true
  shf : SeqAt.shaped (.list fs) = true
  lp : ps.length ≤ 900000
  lf : fs.length ≤ 900000
  each : ∀ p, p ∈ ps ∨ p ∈ fs → SeqAt.shaped p = true ∧ ((fs.any (fun z => PyData.eqv z p) = true ∧ m_need_book [.im h, .im p] = some (.ok (.im p)) ∧ ∃ k, shl 8 (isD p) = some k ∧ k ≤ 16777216) ∨
    (fs.any (fun z => PyData.eqv z p) = false ∧ ∃ d, m_need_book [.im h, .im p] = some (.exc false d)))
theorem pair_ok {h p : PyData} {fs : List PyData} (e : pairOk h fs p = true) : SeqAt.shaped p = true ∧ ((fs.any (fun z => PyData.eqv z p) = true ∧ m_need_book [.im h, .im p] = some (.ok (.im p)) ∧ ∃ k, shl 8 (isD p) = some k ∧ k ≤ 16777216) ∨
    (fs.any (fun z => PyData.eqv z p) = false ∧ ∃ d, m_need_book [.im h, .im p] = some (.exc false d))) := by
  unfold pairOk at e
  rw [Bool.and_eq_true] at e
  refine ⟨e.1, ?_⟩
  have e2 := e.2
  unfold needB at e2
  split at e2
  · rename_i d hd
    rw [Bool.and_eq_true, Bool.and_eq_true] at e2
    have ed := sameD_eq 6 d p e2.1
    subst ed
    exact .inl ⟨e2.2.1, hd, shlOk_ok e2.2.2⟩
  · rename_i d hd
    exact .inr ⟨by simpa using e2, d, hd⟩
  · cases e2
theorem good_of {h : PyData} (e : goodB h = true) : ∃ ps fs, Good h ps fs := by
  unfold goodB at e
  split at e
  · rename_i ps fs bs h1 h2
    simp only [Bool.and_eq_true] at e
    obtain ⟨e1, e2, e3, e4, e5, e6, e7, e8⟩ := e
    have eb := allS_eq (sameD_eq 6) e1
    subst eb
    refine ⟨ps, bs, h1, h2, shlOk_ok e2, e3, e4, Nat.le_of_ble_eq_true e5, Nat.le_of_ble_eq_true e6, fun p hp => ?_⟩
    rcases hp with hp | hp
    · exact pair_ok (List.all_eq_true.mp e7 p hp)
    · exact pair_ok (List.all_eq_true.mp e8 p hp)
  · cases e
def gmatchB (h : PyData) : Bool := match m_all_books [.im h] with
  | some (.exc true (.int i)) => decide (i = 400)
  | _ => false
theorem great_of {h : PyData} (e : gmatchB h = true) : m_all_books [.im h] = some (.exc true (.int 400)) := by
  unfold gmatchB at e
  split at e
  · rename_i i hi
    rw [hi, of_decide_eq_true e]
  · cases e
def nt (l : List Nat) : PyData := .tuple (l.map fun n => .int (n : Nat))
def near12 : List PyData := [.tuple [], .tuple [.int 0], .tuple [.int 0, .int 0], .tuple [.int 0, .int 0, .int 0], .tuple [.int 1], .tuple [.int 1, .int 1], .tuple [.int 2], .tuple [.int 0, .int 1], .tuple [.int 1, .int 0], .tuple [.int 0, .int 0, .int 1], .tuple [.int 0, .int 1, .int 0], .tuple [.int 1, .int 0, .int 0]]
def near5 : List PyData := [.tuple [.int 0, .int 1, .int 1], .tuple [.int 1, .int 0, .int 1], .tuple [.int 1, .int 1, .int 0], .tuple [.int 1, .int 1], .tuple [.int 0, .int 1]]
def great8 : List PyData := [.tuple [.int 0, .int 0, .int 0, .int 0], .tuple [.int 1, .int 1, .int 1], .tuple [.int 3], .tuple [.int 1, .int 2], .tuple [.int 2, .int 0], .tuple [.int 2, .int 2], .tuple (List.replicate 7 (.int 1)), .tuple (List.replicate 60 (.int 0))]
end Bk

set_option Elab.async false
set_option linter.all false
set_option maxRecDepth 100000
namespace Bk
open PySem PySem.Spec PyProof.Rows L2
theorem gr8 : great8.all gmatchB = true := by decide +kernel
theorem gd0 : goodB (nt []) = true := by decide +kernel
theorem gd1 : goodB (nt [0]) = true := by decide +kernel
theorem gd2 : goodB (nt [0, 0]) = true := by decide +kernel
theorem gd3 : goodB (nt [0, 0, 0]) = true := by decide +kernel
theorem gd4 : goodB (nt [1]) = true := by decide +kernel
theorem gd5 : goodB (nt [1, 1]) = true := by decide +kernel
theorem gd6 : goodB (nt [2]) = true := by decide +kernel
theorem gd7 : goodB (nt [0, 1]) = true := by decide +kernel
theorem gd8 : goodB (nt [1, 0]) = true := by decide +kernel
theorem gd9 : goodB (nt [0, 0, 1]) = true := by decide +kernel
theorem gd10 : goodB (nt [0, 1, 0]) = true := by decide +kernel
theorem gd11 : goodB (nt [1, 0, 0]) = true := by decide +kernel
theorem gd12 : goodB (nt [0, 1, 1]) = true := by decide +kernel
theorem gd13 : goodB (nt [1, 0, 1]) = true := by decide +kernel
theorem gd14 : goodB (nt [1, 1, 0]) = true := by decide +kernel
theorem near_good : ∀ h ∈ near12 ++ near5, goodB h = true := by
  intro h hh
  simp only [near12, near5, List.cons_append, List.nil_append, List.mem_cons, List.not_mem_nil, or_false] at hh
  rcases hh with rfl | rfl | rfl | rfl | rfl | rfl | rfl | rfl | rfl | rfl | rfl | rfl | rfl | rfl | rfl | rfl | rfl
  · exact gd0
  · exact gd1
  · exact gd2
  · exact gd3
  · exact gd4
  · exact gd5
  · exact gd6
  · exact gd7
  · exact gd8
  · exact gd9
  · exact gd10
  · exact gd11
  · exact gd12
  · exact gd13
  · exact gd14
  · exact gd5
  · exact gd7
end Bk

set_option Elab.async false
set_option linter.all false
set_option maxRecDepth 100000
/-! written tuples and lists of whole numbers -/
namespace Bk
open PySem PySem.Spec PyProof.Rows L2
def aVal : Stmt → Expr
  | .Assign _ v _ => v
  | _ => .Constant .none 0 ⟨0, 0, 0, 0⟩
def VM (X : Cx) (e : Expr) (d : PyData) : Prop := ∃ m, EM X e m ∧ ∀ G, m G = some (.im d)
def LM (X : Cx) (es : List Expr) (ds : List PyData) : Prop := ∃ ml, AM X es ml ∧ ∀ G, ml G = some (ds.map Vk.im)
def NM (X : Cx) (e : Expr) (ds : List PyData) : Prop := ∃ m, EM X e m ∧ ∀ G, m G = some (.nl ds)
section
variable {X : Cx} {e : Expr} {es : List Expr} {d : PyData} {ds : List PyData} {pos : Pos}
theorem vm_int {i : Int} {j : Nat} : VM X (.Constant (.int i) j pos) (.int i) := ⟨_, em_int, fun _ => rfl⟩
theorem lm_nil : LM X [] [] := ⟨_, am_nil, fun _ => rfl⟩
theorem lm_c (h1 : VM X e d) (h2 : LM X es ds) (hs : noStar e = true := by rfl) : LM X (e :: es) (d :: ds) := by
  obtain ⟨m, a1, a2⟩ := h1
  obtain ⟨ml, b1, b2⟩ := h2
  refine ⟨_, am_cons a1 b1 (star_ne hs), fun G => ?_⟩
  unfold aCons
  rw [a2, b2]
  rfl
theorem ims_map : ∀ ds : List PyData, ims (ds.map Vk.im) = some ds
  | [] => rfl
  | d :: ds => by
    show bnd (ims (ds.map Vk.im)) (fun es => some (d :: es)) = _
    rw [ims_map ds]
    rfl
theorem vm_tup {x1 : Nat} (h : LM X es ds) (hl : Nat.ble ds.length 1000000 = true := by rfl) : VM X (.Tuple es x1 pos) (.tuple ds) := by
  obtain ⟨ml, b1, b2⟩ := h
  refine ⟨_, em_tup b1, fun G => ?_⟩
  unfold mTup
  rw [b2]
  show bnd (ims (ds.map Vk.im)) _ = _
  rw [ims_map]
  show grd (Nat.ble ds.length 1000000) _ = _
  rw [hl]
  rfl
theorem nm_lst (h : LM X es ds) (hl : Nat.ble ds.length 1000000 = true := by rfl) : NM X (.List es pos) ds := by
  obtain ⟨ml, b1, b2⟩ := h
  refine ⟨_, em_lst b1, fun G => ?_⟩
  unfold mLst
  rw [b2]
  show bnd (ims (ds.map Vk.im)) _ = _
  rw [ims_map]
  show grd (Nat.ble ds.length 1000000) _ = _
  rw [hl]
  rfl
theorem vm_rep {n : Nat} {j : Nat} {p2 : Pos} (h : VM X e (.tuple [d])) (hn : Nat.ble n 1000 = true := by rfl) : VM X (.BinOp e .Mult (.Constant (.int (Int.ofNat n)) j p2) pos) (.tuple (List.replicate n d)) := by
  obtain ⟨m, a1, a2⟩ := h
  refine ⟨_, em_mulT a1 em_int, fun G => ?_⟩
  unfold m2
  rw [a2]
  show grd (Nat.ble n 1000) _ = _
  rw [hn]
  rfl
theorem v0 {x : Nat} : VM X (.Tuple [] x pos) (.tuple []) := vm_tup lm_nil
theorem v1 {a : Int} {j x : Nat} {p : Pos} : VM X (.Tuple [.Constant (.int a) j p] x pos) (.tuple [.int a]) := vm_tup (lm_c vm_int lm_nil)
theorem v2 {a b : Int} {j j' x : Nat} {p p' : Pos} : VM X (.Tuple [.Constant (.int a) j p, .Constant (.int b) j' p'] x pos) (.tuple [.int a, .int b]) := vm_tup (lm_c vm_int (lm_c vm_int lm_nil))
theorem v3 {a b c : Int} {j j' j'' x : Nat} {p p' p'' : Pos} : VM X (.Tuple [.Constant (.int a) j p, .Constant (.int b) j' p', .Constant (.int c) j'' p''] x pos) (.tuple [.int a, .int b, .int c]) := vm_tup (lm_c vm_int (lm_c vm_int (lm_c vm_int lm_nil)))
theorem v4 {a b c d : Int} {j j' j'' k x : Nat} {p p' p'' p3 : Pos} : VM X (.Tuple [.Constant (.int a) j p, .Constant (.int b) j' p', .Constant (.int c) j'' p'', .Constant (.int d) k p3] x pos) (.tuple [.int a, .int b, .int c, .int d]) := vm_tup (lm_c vm_int (lm_c vm_int (lm_c vm_int (lm_c vm_int lm_nil))))
end
def bRight : Expr → Expr
  | .BinOp _ _ r _ => r
  | e => e
def cArg (i : Nat) : Expr → Expr
  | .Call _ args _ _ => args.getD i (.Constant .none 0 ⟨0, 0, 0, 0⟩)
  | e => e
theorem nm_r0 {X : Cx} : NM X (aVal ((defBody s__law_right).getD 0 (.Pass ⟨0, 0, 0, 0⟩))) near12 :=
  nm_lst (lm_c v0 (lm_c v1 (lm_c v2 (lm_c v3 (lm_c v1 (lm_c v2 (lm_c v1 (lm_c v2 (lm_c v2 (lm_c v3 (lm_c v3 (lm_c v3 lm_nil))))))))))))
theorem nm_r1 {X : Cx} : NM X (bRight (cArg 1 (aVal ((defBody s__law_right).getD 1 (.Pass ⟨0, 0, 0, 0⟩))))) near5 :=
  nm_lst (lm_c v3 (lm_c v3 (lm_c v3 (lm_c v2 (lm_c v2 lm_nil)))))
theorem nm_g {X : Cx} : NM X (cArg 1 (aVal ((defBody s_law).getD 2 (.Pass ⟨0, 0, 0, 0⟩)))) great8 :=
  nm_lst (lm_c v4 (lm_c v3 (lm_c v1 (lm_c v2 (lm_c v2 (lm_c v2 (lm_c (vm_rep (n := 7) v1) (lm_c (vm_rep (n := 60) v1) lm_nil))))))))
end Bk

set_option Elab.async false
set_option linter.all false
set_option maxRecDepth 100000
set_option maxHeartbeats 1000000
/-! _law_right -/
namespace Bk
open PySem PySem.Spec PyProof.Rows L2
theorem up_tst {K : PySem.W.Frag} {H H' : Hp} {a c l : Addr} {n : Nat} (st : StOk H a c l n) (u : Up a l H H') : Tst K H H' := fun b xs h => by
  have dk := st.dk
  obtain ⟨cells, lefts, hc, hl, _⟩ := st.ce
  have other : ∀ {b : Addr} {o : HO}, H b = some o → (∀ kvs, o ≠ .dK kvs) → (∀ xs, o ≠ .lst xs) → H' b = some o := fun {b o} h h1 h2 => u b o (fun z => by
      rw [z, dk] at h
      cases h
      exact h1 _ rfl) (fun z => by
      rw [z, hl] at h
      cases h
      exact h2 _ rfl) h
  rcases h with (h | ⟨o, h⟩) | h
  · exact .inl (.inl (other h (fun _ z => by cases z) fun _ z => by cases z))
  · exact .inl (.inr ⟨o, other h (fun _ z => by cases z) fun _ z => by cases z⟩)
  · exact .inr h
theorem dp_ref {K : PySem.W.Frag} {H : Hp} {v : V} {ds : List PyData} (h : Dp K H v (.tuple ds)) : ∃ p, v = .ref p := by
  cases h
  exact ⟨_, rfl⟩
theorem dp_int {K : PySem.W.Frag} {H : Hp} {v : V} {i : Int} (h : Dp K H v (.int i)) : v = .int i := by
  cases h
  rfl
/-- what is known of the text, all of it -/
structure TxG (P : Program) (K : PySem.W.Frag) (mg : Str → Option Value) (base : Heap) (CB CG CH : Addr) : Prop where
  T : TxA K mg
  U : XCls P K mg CB CG
  V : HCls K mg CB CG CH
  tR : LamX.TabB base mg (He.codeOf K ("_law_right", none)) (He.tabOf K (He.codeOf K ("_law_right", none)))
  tL : LamX.TabB base mg (He.codeOf K ("law", none)) (He.tabOf K (He.codeOf K ("law", none)))
  ne : He.tabOf K (He.codeOf K ("_law_right", none)) ≠ He.tabOf K (He.codeOf K ("law", none))
def qR : Str := (envOfC "_law_right" (defScope s__law_right) 0 0 .none).qual ++ "<lambda>"
def qL : Str := (envOfC "law" (defScope s_law) 0 0 .none).qual ++ "<lambda>"
def tabs (K : PySem.W.Frag) : List (Addr × Str) := [(He.tabOf K (He.codeOf K ("_law_right", none)), qR), (He.tabOf K (He.codeOf K ("law", none)), qL)]
theorem tabs_r {K : PySem.W.Frag} (ne : He.tabOf K (He.codeOf K ("_law_right", none)) ≠ He.tabOf K (He.codeOf K ("law", none))) : ∀ p ∈ tabs K, p.1 = He.tabOf K (He.codeOf K ("_law_right", none)) → p.2 = qR := fun p hp e => by
  unfold tabs at hp
  rcases List.mem_cons.mp hp with rfl | hp
  · rfl
  · rcases List.mem_cons.mp hp with rfl | hp
    · exact absurd e.symm ne
    · cases hp
theorem tabs_l {K : PySem.W.Frag} (ne : He.tabOf K (He.codeOf K ("_law_right", none)) ≠ He.tabOf K (He.codeOf K ("law", none))) : ∀ p ∈ tabs K, p.1 = He.tabOf K (He.codeOf K ("law", none)) → p.2 = qL := fun p hp e => by
  unfold tabs at hp
  rcases List.mem_cons.mp hp with rfl | hp
  · exact absurd e ne
  · rcases List.mem_cons.mp hp with rfl | hp
    · rfl
    · cases hp
section
variable {P : Program} {w : World} {K : PySem.W.Frag} {mg : Str → Option Value} {base : Heap} {CB CG CH : Addr}
/-- right: true, the state goes on -/
def spRight (K : PySem.W.Frag) : Sp := fun vs H Q _ => ∃ (a c l : Addr), vs = [.ref a] ∧ StOk H a c l 0 ∧ LamX.Tabs (tabs K) H ∧ ∀ (n : Nat) (H' : Hp), n ≤ 10 → StOk H' a c l n → LamX.Tabs (tabs K) H' → Q (.bl true) H'
theorem sc__law_right : FnScope ["_law_state", "_law_some", "_law_near_so", "_law_pairs", "_law_found", "_law_turn", "_law_told", "_law_due"] ["_law_state"] (defScope s__law_right) := ⟨rfl, rfl, rfl, by decide +kernel, rfl, by decide +kernel, by decide +kernel⟩
theorem passF {X : Cx} (σ : L2.St) : PassesAt (L2.CX X.prog X.w) X σ (fun _ _ _ => False) := fun _ _ _ _ _ _ c => by
  obtain ⟨_, _, _, _, _, _, _, _, _, _, _, _, z⟩ := c
  exact z.elim
/-- a call of a def that may raise, where it does not -/
theorem pe_callX {X : Cx} {CB CG : Addr} {e : Expr} {es : List Expr} {t : TA} {x : Str} {p pos : Pos} {k n : Nat} {ps : List Str} {f : List Vk → Option RK} (F : DokX X.prog X.w X.K X.mg X.base CB CG x k ps f) (hr : Room n X.A) (ha : PA X (e :: es) t) (hkn : Nat.ble k n = true := by rfl) (hg : Gl X x := by rfl) (hdb : (x == ("__debug__" : Str)) = false := by decide)
    (he : starEach (e :: es) X.env = (false, eval e X.env) :: starEach es X.env := by rfl) (hpl : (backTo pos (starEach es X.env)).any (·.1) = false := by rfl) :
    PE X (.Call (.Name x p) (e :: es) [] pos) (fun σ H Q => t σ H fun vs H1 => ∃ (ks : List Vk) (k' : Vk), VsOk X.K H1 H1 vs ks ∧ f ks = some (.ok k') ∧ ∀ v H', Same H1 H' → VOk X.K H1 H' v k' → Q v H') := by
  obtain ⟨fd, F1, hb⟩ := F.ex
  refine ⟨fun pins s σ H Q I hq => ?_⟩
  refine wpAny_Call_Name_kw (ld_glob I hg F.gl ?_ hdb)
  refine PySem.W.callWith_K (h₀ := X.base) I.ok.mod.kin F.kp (thn (ha.run pos pins s σ H _ I hq) fun us s1 ⟨vs, H1, J, r, ks, k', o, hf, q⟩ => ⟨J.kIn, ?_⟩) he hpl
  exact run_fnS (E := fun _ _ _ _ => False) F1 (hr.mono (Nat.le_of_ble_eq_true hkn)) hb (passF σ) J r ⟨⟨(ks, .ok k'), hf⟩, o, q⟩
theorem RI.nmr {X : Cx} {T : List (Addr × Str)} {G : Cn} {σ : L2.St} {H : Hp} {a c l : Addr} {n : Nat} {e : Expr} {ds : List PyData} {Q : VK} (hk : X.K = K) (h : NM X e ds) (R : RI K T G σ H a c l n) (q : ∀ v H', Same H H' → VOk K H H' v (.nl ds) → RI K T G σ H' a c l n → Q v H') : wE X e σ H Q := by
  obtain ⟨m, h1, h2⟩ := h
  exact RI.em hk h1 (h2 G) R q
theorem wSs_cons {X : Cx} {st : Stmt} {rest : List Stmt} {D : Ends} {σ : L2.St} {H : Hp} (h : wS X st { D with nx := wSs X rest D } σ H) : wSs X (st :: rest) D σ H := wSs_ex ⟨_, pss_cons ps_w pss_w, h⟩
theorem wS_set {X : Cx} {i : Nat} {x : Str} {pp : Pos} {e : Expr} {p : Pos} {D : Ends} {σ : L2.St} {H : Hp} (hN : X.N.Nodup) (hi : X.N[i]? = some x) (hx : Loc X.env.scope x) (hs : swapsWith e (some (.Name x pp)) p.line X.env = pure false) (hf : X.fn x = true ∨ List.lookup x X.env.scope.names = some NameKind.local) (h : wE X e σ H fun v H1 => D.nx (σ.set i (some v)) H1) : wS X (.Assign [.Name x pp] e p) D σ H := wS_ex ⟨_, ps_set hN hi hx pe_w hs hf, h⟩
theorem wE_of {X : Cx} {e : Expr} {t : TE} {σ : L2.St} {H : Hp} {Q : VK} (h : PE X e t) (q : t σ H Q) : wE X e σ H Q := wE_ex ⟨t, h, q⟩
theorem pick_draw {T : List (Addr × Str)} {G : Cn} {σ : L2.St} {H : Hp} {a c l : Addr} {m i j : Nat} {ps fs : List PyData} {t : Bool} {Q : VK} {E' : XK} (R : RI K T G σ H a c l m) (hm : m ≤ 1000) (h3 : G[i]? = some (.rl ps)) (h4 : G[j]? = some (.rl fs)) (ht : t = true → ps ≠ []) (hf : t = false → fs ≠ []) (lp : ps.length ≤ 900000) (lf : fs.length ≤ 900000)
    (q : ∀ v p H', (p ∈ ps ∨ p ∈ fs) → imm p = true → Dp K H' v p → RI K T G σ H' a c l (m + 1) → Q v H') : if t = true then tVar i σ H (fun v H1 => spOf K [.ref a, v] H1 Q E') else tVar j σ H (fun v H1 => spOf K [.ref a, v] H1 Q E') := by
  have go : ∀ (i : Nat) (ds : List PyData), G[i]? = some (.rl ds) → ds ≠ [] → ds.length ≤ 900000 → (∀ p, p ∈ ds → p ∈ ps ∨ p ∈ fs) → tVar i σ H (fun v H1 => spOf K [.ref a, v] H1 Q E') := fun i ds hg hn hl hin => by
    obtain ⟨r, xs, hs, im, hq, hd, na, nl⟩ := R.rl hg
    have le := DpAll.length hd
    have pos : 0 < ds.length := List.length_pos_iff.mpr hn
    refine ⟨_, hs, a, c, l, r, m, xs, rfl, R.st, hm, hq, na, nl, by omega, by omega, fun z v H' hz st' up => ?_⟩
    obtain ⟨p, hp, dp⟩ := hd.getV hz
    have mem := List.mem_of_getElem? hp
    exact q v p H' (hin p mem) (immAll_iff.mp im p mem) (Dp.keep (up_tst R.st up) p v (immAll_iff.mp im p mem) dp) (R.up up st')
  cases t with
  | true => exact go i ps h3 (ht rfl) lp fun p h => .inl h
  | false => exact go j fs h4 (hf rfl) lf fun p h => .inr h
abbrev XR (P : Program) (w : World) (K : PySem.W.Frag) (mg : Str → Option Value) (base : Heap) (f : Addr) (cdv : Value) (A : Around) (outer : List Env) (s : Shared) (H : Hp) (E : XK) : Cx :=
  (cxOf CX0 P w K mg base ["_law_state", "_law_some", "_law_near_so", "_law_pairs", "_law_found", "_law_turn", "_law_told", "_law_due"] "_law_right" (defScope s__law_right) f cdv A outer s H E).nox
theorem ok__law_right (Z : TxG P K mg base CB CG CH) (hgood : ∀ h ∈ near12 ++ near5, goodB h = true) : DokG P w K mg base "_law_right" 14 ["_law_state"] (spRight K) := by
  have T := Z.T
  refine dokG T.t__law_right sc__law_right (fun _ _ _ _ _ _ us hl => match us, hl with | [_], _ => rfl) (fun vs H Q E h => ?_) ?_
  · obtain ⟨a, c, l, rfl, _⟩ := h
    rfl
  · intro f cdv A outer s H vs Q E hr hgu hcode h
    obtain ⟨a, c, l, rfl, st, tb, q⟩ := h
    have S := sc__law_right
    have R0 : RI K (tabs K) [.at_ (.ref a), .no, .no, .no, .no, .no, .no, .no] (L2.start ["_law_state", "_law_some", "_law_near_so", "_law_pairs", "_law_found", "_law_turn", "_law_told", "_law_due"] [.ref a]) H a c l 0 := by
      refine ⟨⟨fun _ => none, ⟨rfl, fun b o z => (by cases z), fun i k hk => ?_, fun i j ds es x _ hi => ?_⟩, rfl, rfl, fun b ps z => (by cases z)⟩, fun i es z => ?_, st, tb, fun i ds q hi => ?_⟩
      · match i, hk with
        | 0, hk => cases hk; rfl
        | 1, hk => cases hk; trivial
        | 2, hk => cases hk; trivial
        | 3, hk => cases hk; trivial
        | 4, hk => cases hk; trivial
        | 5, hk => cases hk; trivial
        | 6, hk => cases hk; trivial
        | 7, hk => cases hk; trivial
        | n + 8, hk => cases hk
      · match i, hi with
        | 0, hi => cases hi
        | 1, hi => cases hi
        | 2, hi => cases hi
        | 3, hi => cases hi
        | 4, hi => cases hi
        | 5, hi => cases hi
        | 6, hi => cases hi
        | 7, hi => cases hi
        | n + 8, hi => cases hi
      · match i, z with
        | 0, hi => cases hi
        | 1, hi => cases hi
        | 2, hi => cases hi
        | 3, hi => cases hi
        | 4, hi => cases hi
        | 5, hi => cases hi
        | 6, hi => cases hi
        | 7, hi => cases hi
        | n + 8, hi => cases hi
      · match i, hi with
        | 0, hi => cases hi
        | 1, hi => cases hi
        | 2, hi => cases hi
        | 3, hi => cases hi
        | 4, hi => cases hi
        | 5, hi => cases hi
        | 6, hi => cases hi
        | 7, hi => cases hi
        | n + 8, hi => cases hi
    have nmr : ∀ {G : Cn} {σ : L2.St} {H1 : Hp} {n : Nat} {e : Expr} {ds : List PyData} {Q : VK}, NM (XR P w K mg base f cdv A outer s H E) e ds → RI K (tabs K) G σ H1 a c l n → (∀ v H', Same H1 H' → VOk K H1 H' v (.nl ds) → RI K (tabs K) G σ H' a c l n → Q v H') → wE (XR P w K mg base f cdv A outer s H E) e σ H1 Q := fun h R q => RI.nmr rfl h R q
    have two : (2 : Nat) ≤ sizeLine := by rw [sizeLine_eq]; omega
    -- _law_some = [..]
    refine wSs_cons ?_
    refine wS_set (i := 1) ?_ ?_ ?_ ?_ ?_ ?_
    · exact S.nd
    · rfl
    · exact Or.inl rfl
    · rfl
    · exact Or.inr rfl
    have n0 := nm_r0 (X := XR P w K mg base f cdv A outer s H E)
    change wE (XR P w K mg base f cdv A outer s H E) (aVal ((defBody s__law_right).getD 0 (.Pass ⟨0, 0, 0, 0⟩))) _ _ _
    generalize aVal ((defBody s__law_right).getD 0 (.Pass ⟨0, 0, 0, 0⟩)) = E0 at n0 ⊢
    refine nmr n0 R0 fun v1 H1 e1 o1 R1 => ?_
    obtain ⟨im1, q1, xs1, rfl, f1, g1, d1⟩ := o1
    have dk0 := st.dk
    obtain ⟨cells, lefts, hc0, hl0, _⟩ := st.ce
    have nq1a : q1 ≠ a := fun z => by
      rw [z, dk0] at f1
      cases f1
    have nq1l : q1 ≠ l := fun z => by
      rw [z, hl0] at f1
      cases f1
    have R2 := R1.putL (i := 1) rfl nq1a nq1l g1 im1 d1
    -- _law_near_so = _law_of(_law_state, _law_some + [..])
    obtain ⟨fdO, FO, bO⟩ := (ok__law_of (P := P) (w := w) (base := base) T).ex
    have DO := ok__law_of (P := P) (w := w) (base := base) T
    refine wSs_cons ?_
    refine wS_set (i := 2) ?_ ?_ ?_ ?_ ?_ ?_
    · exact S.nd
    · rfl
    · exact Or.inr rfl
    · rfl
    · exact Or.inl rfl
    refine wE_of (pe_call FO (hr.mono (by decide)) rfl DO.gl DO.kp bO .nil pass0 (pa_cons (pe_var (i := 0) rfl (Or.inl rfl)) (pa_cons (pe_op op_cat (pe_var (i := 1) rfl (Or.inl rfl)) pe_w) pa_nil))) ?_
    refine ⟨_, rfl, _, rfl, ?_⟩
    have n1 := nm_r1 (X := XR P w K mg base f cdv A outer s H E)
    change wE (XR P w K mg base f cdv A outer s H E) (bRight (cArg 1 (aVal ((defBody s__law_right).getD 1 (.Pass ⟨0, 0, 0, 0⟩))))) _ _ _
    generalize bRight (cArg 1 (aVal ((defBody s__law_right).getD 1 (.Pass ⟨0, 0, 0, 0⟩)))) = E1 at n1 ⊢
    refine nmr n1 R2 fun v2 H2 e2 o2 R3 => ?_
    obtain ⟨im2, q2, xs2, rfl, f2, g2, d2⟩ := o2
    have g1' := e2 _ _ g1
    have d1' := DpAll.same e2 _ _ d1
    have l1 := DpAll.length d1
    have l2 := DpAll.length d2
    refine ⟨q1, q2, xs1, xs2, rfl, rfl, g1', g2, by rw [l1, l2, sizeLine_eq]; decide, fun r hrn => ?_⟩
    have R4 := R3.later (same_upd (o := .lst (xs1 ++ xs2)) hrn)
    have st4 := R4.st
    have hra : r ≠ a := fun z => by
      rw [z, R3.st.dk] at hrn
      cases hrn
    have hrl : r ≠ l := fun z => by
      obtain ⟨_, _, _, hl3, _⟩ := R3.st.ce
      rw [z, hl3] at hrn
      cases hrn
    have d12 : DpAll K (upd H2 r (.lst (xs1 ++ xs2))) (xs1 ++ xs2) (near12 ++ near5) := DpAll.same (same_upd hrn) _ _ (d1'.append d2)
    refine ⟨a, c, l, r, 0, xs1 ++ xs2, rfl, st4, by omega, SqL.of upd_same, hra, hrl, by rw [List.length_append, l1]; exact Nat.lt_of_lt_of_le (by decide) (Nat.le_add_right _ _), by rw [List.length_append, l1, l2]; decide, fun i v H3 hi st5 up5 => ?_⟩
    obtain ⟨near, hnear, dn⟩ := d12.getV hi
    have hmem : near ∈ near12 ++ near5 := List.mem_of_getElem? hnear
    obtain ⟨ps, fs, good⟩ := good_of (hgood near hmem)
    have imn : imm near = true := immAll_iff.mp (immAll_append im1 im2) near hmem
    have R5 := R4.up up5 st5
    have dn3 : Dp K H3 v near := Dp.keep (up_tst st4 up5) near v imn dn
    have R6 := R5.putIm (i := 2) rfl ⟨imn, dn3⟩
    -- _law_pairs, _law_found = _law_tried(_law_near_so)
    obtain ⟨fdT, FT, bT⟩ := (ok__law_tried (P := P) (w := w) (base := base) T).ex
    have DT := ok__law_tried (P := P) (w := w) (base := base) T
    refine wSs_cons ?_
    refine wS_ex ⟨_, ps_asg (pe_call FT (hr.mono (by decide)) rfl DT.gl DT.kp bT .nil pass0 (pa_cons (pe_var (i := 2) rfl (Or.inr (Or.inl rfl))) pa_nil)) (pg_tup rfl (pgs_cons (pg_name (i := 3) S.nd rfl (Or.inl rfl)) (pgs_cons (pg_name (i := 4) S.nd rfl (Or.inl rfl)) pgs_nil))), ?_⟩
    refine ⟨v, rfl, near, ps, fs, v, rfl, imn, dn3, good.tried, fun p r1 r2 H4 xs ys p0 r10 r20 r12 e4 hp4 h14 h24 imp imf dp df => ?_⟩
    refine ⟨p, [.ref r1, .ref r2], rfl, .inl (.inl hp4), rfl, _, _, rfl, _, _, rfl, rfl, ?_⟩
    have ra : ∀ {r : Addr}, H3 r = none → r ≠ a := fun {r} z e => by
      rw [e, st5.dk] at z
      cases z
    have rl : ∀ {r : Addr}, H3 r = none → r ≠ l := fun {r} z e => by
      obtain ⟨_, _, _, hl3, _⟩ := st5.ce
      rw [e, hl3] at z
      cases z
    have R7 := ((R6.later e4).putL (i := 3) rfl (ra r10) (rl r10) h14 imp dp).putL (i := 4) rfl (ra r20) (rl r20) h24 imf df
    -- if not _law_like(all_books(_law_near_so), tuple(_law_found)): return False
    obtain ⟨fdL, FL, bL⟩ := (ok__law_like (P := P) (w := w) (base := base) T).ex
    have DL := ok__law_like (P := P) (w := w) (base := base) T
    have DA := ok_all_books (P := P) (w := w) (base := base) T Z.U
    refine wSs_cons ?_
    refine wS_ex ⟨_, ps_if (pt_not (pt_val (pe_callG (E := fun _ _ _ => False) FL (hr.mono (by decide)) hgu rfl DL.gl DL.kp bL (pa_cons (pe_callX DA hr (pa_cons (pe_var (i := 2) rfl (Or.inr (Or.inl rfl))) pa_nil)) (pa_cons pe_w pa_nil))))) pss_w pss_nil, ?_⟩
    refine ⟨v, rfl, [.im near], _, .cons ⟨imn, Dp.same e4 _ _ dn3⟩ .nil, good.books, fun va H5 e5 oa => ?_⟩
    have R8 := R7.later e5
    refine RI.ek (X := XR P w K mg base f cdv A outer s H E) rfl (ek_tupL (ek_rl 4) T.n_tuple) R8 fun vb H6 e6 ob R9 => ?_
    obtain ⟨ima, da⟩ := oa
    obtain ⟨imb, db⟩ := ob
    obtain ⟨pa, rfl⟩ := dp_ref da
    obtain ⟨pb, rfl⟩ := dp_ref db
    obtain ⟨kk, hk1, hk2⟩ := good.shown
    refine ⟨pa, pb, fs, kk, rfl, Dp.same e6 _ _ da, db, hk1, hk2, true, rfl, ?_⟩
    show (if (!true) = true then _ else _)
    rw [if_neg (by decide : ¬ ((!true) = true))]
    have hu : (XR P w K mg base f cdv A outer s H E).A.units + 65 < cLine := by
      have z := hr.un
      show (A.deeper _).units + 65 < cLine
      omega
    have hu4 : (XR P w K mg base f cdv A outer s H E).A.units + 64 < cLine := hr.units
    have eqnil : ∀ ds : List PyData, PyData.eqv (.list ds) (.list []) = true ↔ ds = [] := fun ds => by
      cases ds with
      | nil => simp [PyData.eqv, PyData.eqvAll]
      | cons d ds => simp [PyData.eqv, PyData.eqvAll]
    -- for _law_turn in range(4 if _law_pairs != [] else 0)
    refine wSs_cons ?_
    refine wS_ex ⟨_, ps_for PassesOwn.never rfl (pi_range1 rfl T.n_range (pa_cons pe_w pa_nil)) (pg_name (i := 5) S.nd rfl (Or.inl rfl)) pss_w, ?_⟩
    refine RI.ek (X := XR P w K mg base f cdv A outer s H E) (k := .im (.int (if (!PyData.eqv (.list ps) (.list [])) = true then 4 else 0))) rfl (ek_if (tk_neD hu4 (ek_rl 3) (ek_lst (ds := []) ak_nil) rfl rfl good.shp (by decide +kernel)) (fun e => by rw [if_pos e]; exact ek_int) (fun e => by rw [if_neg (by rw [e]; decide)]; exact ek_int)) R9 fun vj H7 e7 oj R10 => ?_
    obtain ⟨_, dj⟩ := oj
    have ej := dp_int dj
    subst ej
    refine ⟨_, rfl, ?_, ?_, ?_⟩
    · split <;> decide
    · split <;> decide
    obtain ⟨fdH, FH⟩ := T.t__law_heard.F
    have bH := FH.bindsN (ps := ["_law_call"]) (fun _ _ _ _ _ _ us hl => match us, hl with | [_], _ => rfl)
    have gH := T.t__law_heard.gl
    have kH := FH.kp
    obtain ⟨oc, od, dV, kV, doc, pm, an, cdh, ct, osl, rfl, lkH, hcdH, _, _⟩ := FH.ex
    obtain ⟨fdN, FN, bN⟩ := (ok_need_book (P := P) (w := w) (base := base) T Z.U).ex
    have DN := ok_need_book (P := P) (w := w) (base := base) T Z.U
    refine for_it walk_range (fun i σ H' => ∃ k5 k6 k7 m, m ≤ 1 + i ∧ RI K (tabs K) [.at_ (.ref a), .rl near12, .im near, .rl ps, .rl fs, k5, k6, k7] σ H' a c l m) ⟨_, _, _, _, Nat.le_refl _, R10⟩ (fun _ _ _ _ _ => trivial) (fun i x σ H8 H9 hi hP hy => ?_) fun σ H8 hP => ?_
    · obtain ⟨k5, k6, k7, m, hm, R11⟩ := hP
      obtain ⟨rfl, rfl⟩ := hy
      have hps : ps ≠ [] := fun z => by
        rw [z] at hi
        rw [if_neg (by decide +kernel)] at hi
        exact absurd hi (Nat.not_lt_zero _)
      have hi4 : i < 4 := Nat.lt_of_lt_of_le hi (by split <;> decide)
      have R12 := R11.putIm (i := 5) rfl ⟨imm_int (0 + (i : Nat)), .int _⟩
      show wSs (XR P w K mg base f cdv A outer s H E) _ _ _ _
      refine wSs_cons ?_
      refine wS_ex ⟨_, ps_set (i := 6) S.nd rfl (Or.inr rfl) (pe_call FO (hr.mono (by decide)) rfl DO.gl DO.kp bO .nil pass0 (pa_cons (pe_var (i := 0) rfl (Or.inl rfl)) (pa_cons (pe_ifExp pt_w (pe_var (i := 3) rfl (Or.inl rfl)) (pe_var (i := 4) rfl (Or.inl rfl))) pa_nil))), ?_⟩
      refine ⟨_, R12.at_ (i := 0) rfl, ?_⟩
      refine RI.tk (X := XR P w K mg base f cdv A outer s H E) rfl (tk_or2 (p2 := ⟨0, 0, 0, 0⟩) (tk_gt (ek_im 5) ek_int) (fun _ => tk_eqD hu4 (ek_rl 4) (ek_lst (ds := []) ak_nil) rfl rfl good.shf (by decide +kernel))) R12 fun H10 e10 R13 => ?_
      refine pick_draw (ps := ps) (fs := fs) (E' := fun _ _ _ => False) R13 (by omega) rfl rfl (fun _ => hps) (fun e z => ?_) good.lp good.lf fun v6 p H11 hmem imp dp R14 => ?_
      · rw [Bool.or_eq_false_iff] at e
        rw [(eqnil fs).mpr z] at e
        exact absurd e.2 (by decide)
      have R15 := R14.putIm (i := 6) rfl ⟨imp, dp⟩
      obtain ⟨shp, hcase⟩ := good.each p hmem
      show wSs (XR P w K mg base f cdv A outer s H E) _ _ _ _
      refine wSs_cons ?_
      refine wS_ex ⟨_, ps_set (i := 7) S.nd rfl (Or.inl rfl) pe_w, ?_⟩
      refine RI.ek (X := XR P w K mg base f cdv A outer s H E) (k := .im (if fs.any (fun z => PyData.eqv z p) = true then isD p else bookD)) rfl (ek_if (tk_inD hu (ek_im 6) (ek_rl 4) rfl rfl shp good.shf) (fun e => by rw [if_pos e]; exact ek_tup (ak_cons ek_str (ak_cons (ek_im 6) ak_nil)) rfl (show 2 ≤ sizeLine from two)) (fun e => by rw [if_neg (by rw [e]; decide)]; exact ek_tup (ak_cons ek_str (ak_cons ek_bool ak_nil)) rfl (show 2 ≤ sizeLine from two))) R15 fun vd H12 e12 od R16 => ?_
      have R17 := R16.putIm (i := 7) rfl od
      show wSs (XR P w K mg base f cdv A outer s H E) _ _ _ _
      refine wSs_ex ⟨_, pss_one (ps_if (pt_not (pt_val (pe_callG (E := fun _ _ _ => False) FL (hr.mono (by decide)) hgu rfl DL.gl DL.kp bL
        (pa_cons (LamX.pe_lamcall (T := tabs K) (TT := TTh CB CG) (k := 11) (P := He.tabOf K (He.codeOf K ("_law_right", none))) (c := He.codeOf K ("_law_right", none)) rfl gH kH lkH hcdH bH sc__law_heard rfl (Or.inl rfl) (heard_gives T Z.U Z.V) Z.tR hcode (by unfold tabs; exact List.mem_cons_self) (tabs_r Z.ne) hr (LamX.lamS_by (by rfl)) rfl (fun _ _ _ _ _ => rfl)
          (fun A' outer' s' H' E' f' c' hr' => pe_callS FN (hr'.mono (by decide)) rfl DN.gl DN.kp bN (fun σ => passAt (takes_of rfl rfl rfl rfl) σ) (pa_cons (pe_var (i := 2) rfl (Or.inr (Or.inr rfl))) (pa_cons (pe_var (i := 6) rfl (Or.inr (Or.inr rfl))) pa_nil)))) (pa_cons (pe_var (i := 7) rfl (Or.inl rfl)) pa_nil))))) pss_w pss_nil), ?_⟩
      refine ⟨R17.tb, fun H13 e13 tb13 => ?_⟩
      have R18 := R17.ext e13 tb13
      obtain ⟨v2, h2, im2', d2'⟩ := R18.im (i := 2) rfl
      obtain ⟨v6', h6, im6, d6⟩ := R18.im (i := 6) rfl
      obtain ⟨v7, h7, im7, d7⟩ := R18.im (i := 7) rfl
      refine ⟨v2, h2, v6', h6, ?_⟩
      rcases hcase with ⟨hin, hneed, kk', hk1', hk2'⟩ | ⟨hout, dd, hneed⟩
      · refine ⟨⟨([.im near, .im p], .ok (.im p)), hneed⟩, .cons ⟨im2', d2'⟩ (.cons ⟨im6, d6⟩ .nil), fun v8 H14 e14 o14 q8 hq8 => ?_⟩
        rw [if_pos hin] at d7
        have hup := same_upd (o := .tup [.str "is", v8]) hq8
        obtain ⟨p7, rfl⟩ := dp_ref d7
        refine ⟨_, h7, q8, p7, [.str "is", p], kk', rfl, .tup (.inl (.inl upd_same)) (.cons (.str _) (.cons (Dp.same hup _ _ o14.2) .nil)), Dp.same (e14.trans hup) _ _ d7, hk1', hk2', true, rfl, ?_⟩
        show (if (!true) = true then _ else _)
        rw [if_neg (by decide : ¬ ((!true) = true))]
        exact ⟨_, _, _, m + 1, by omega, R18.later (e14.trans hup)⟩
      · refine ⟨⟨([.im near, .im p], .exc false dd), hneed⟩, .cons ⟨im2', d2'⟩ (.cons ⟨im6, d6⟩ .nil), fun dq H14 e14 o14 => .inl ⟨rfl, fun q8 hq8 => ?_⟩⟩
        rw [if_neg (by rw [hout]; decide)] at d7
        have hup := same_upd (o := .tup [.str "book", .bl true]) hq8
        obtain ⟨p7, rfl⟩ := dp_ref d7
        obtain ⟨kk', hk1', hk2'⟩ := shlOk_ok (d := bookD) (by decide +kernel)
        refine ⟨_, h7, q8, p7, [.str "book", .bool true], kk', rfl, .tup (.inl (.inl upd_same)) (.cons (.str _) (.cons (.bl _) .nil)), Dp.same (e14.trans hup) _ _ d7, hk1', hk2', true, rfl, ?_⟩
        show (if (!true) = true then _ else _)
        rw [if_neg (by decide : ¬ ((!true) = true))]
        exact ⟨_, _, _, m + 1, by omega, R18.later (e14.trans hup)⟩
    · obtain ⟨k5, k6, k7, m, hm, R11⟩ := hP
      refine wSs_ex ⟨_, pss_one (ps_ret pe_bl), ?_⟩
      exact q m _ (Nat.le_trans hm (by split <;> decide)) R11.st R11.tb
end
end Bk

set_option Elab.async false
set_option linter.all false
set_option maxRecDepth 100000
set_option maxHeartbeats 1000000
/-! the law's def -/
namespace Bk
open PySem PySem.Spec PyProof.Rows L2
theorem okXF {P : Program} {w : World} {K : PySem.W.Frag} {mg : Str → Option Value} {base : Heap} {CB CG : Addr} {x : Str} {st : Stmt} {N ps : List Str} {n nn np : Nat} {m : MX} (T : Txt K mg x st) (S : FnScope N ps (defScope st))
    (hN : N.length = nn) (hps : ps.length = np)
    (hbody : ∀ (f : Addr) (cdv : Value) (A : Around) (outer : List Env) (s : Shared) (H : Hp) (E : XK), Room n (A.deeper (envOfC x (defScope st) s.heap.objs.size f cdv)) →
      Takes (cxOf (L2.CX P w) P w K mg base N x (defScope st) f cdv A outer s H E) (fun cls d _ H => E cls d H) →
      XMs (cxOf (L2.CX P w) P w K mg base N x (defScope st) f cdv A outer s H E) (fun cls d _ H => E cls d H) CB CG (defBody st) m) : ∃ fd, FunD K x x (defArgs st) (defBody st) (defScope st) [] [] (He.ga K x) fd ∧ FnOk P w K mg base (L2.CX P w) (n + 1) (He.ga K x) fd ps (MXp K CB CG (defX np nn m)) := by
  obtain ⟨fd, F⟩ := T.F
  refine ⟨fd, F, F.ok S (fun vs H Q E h => ?_) (fun cdv A outer s H vs Q E hr h => ?_)⟩
  · obtain ⟨⟨⟨ks, r⟩, h1⟩, h2, _⟩ := h
    obtain ⟨h3, _⟩ := grd_some h1
    have := h2.length
    rw [this, hps]
    exact Nat.eq_of_beq_eq_true h3
  · obtain ⟨⟨⟨ks, r⟩, h1⟩, h2, h3⟩ := h
    obtain ⟨h4, h5⟩ := grd_some h1
    obtain ⟨q, h6, h7⟩ := bnd_some h5
    refine ⟨_, pss_w, ?_⟩
    have s0 := sd_start (N := N) h2
    have s1 : Sd K H (ks.map Vk.kd ++ List.replicate (nn - ks.length) .no) (L2.start N vs) H := by
      rw [← hN]
      exact s0
    refine hbody _ cdv A outer s H E hr (takes_of rfl rfl rfl rfl) _ q h6 H (L2.start N vs) H _ s1 ?_
    cases q with
    | go G' =>
      cases h7
      intro P' σ' H' e s'
      exact h3 .non H' (e.trans s'.same) ⟨imm_none, .non⟩
    | ret k =>
      cases h7
      exact fun v H' e o => h3 v H' e o
    | exc gg d =>
      cases h7
      exact fun dd σ' H' e o => h3 dd H' e o
section
variable {P : Program} {w : World} {K : PySem.W.Frag} {mg : Str → Option Value} {base : Heap} {CB CG CH : Addr}
theorem okf_all_books (T : TxA K mg) (U : XCls P K mg CB CG) : ∃ fd, FunD K "all_books" "all_books" (defArgs s_all_books) (defBody s_all_books) (defScope s_all_books) [] [] (He.ga K "all_books") fd ∧ FnOk P w K mg base (L2.CX P w) 7 (He.ga K "all_books") fd ["holder"] (MXp K CB CG m_all_books) := by
  refine okXF T.t_all_books sc_all_books rfl rfl ?_
  intro f cdv A outer s H E hr tk
  exact xms_cons (xm_expr (ok_check_twice T U) hr tk (am_cons (em_call (ok_need_holder T) hr (am_cons (em_var 0) (am_nil))) (am_nil))) (xms_cons (xm_lift (sm_set 1 (em_call (ok_into_sizes T) hr (am_cons (em_var 0) (am_cons (em_var 0) (am_nil)))) sc_all_books.nd)) (xms_cons (xm_if (tm_gt (em_mul (em_len (em_var 0) T.n_len) (em_call (ok_programs_so T) hr (am_cons (em_var 1) (am_cons (em_var 0) (am_nil))))) (em_glob T.c_MOST_LISTED)) (xms_one (xm_raise_TooGreat U hr tk (em_glob T.c_MOST_LISTED))) (xms_nil)) (xms_cons (xm_lift (sm_set 2 (em_lst (am_nil)) sc_all_books.nd)) (xms_cons (xm_lift (sm_for (T := (.one 3)) (im_range (em_len (em_var 0) T.n_len) T.n_range) (gk_one 3 sc_all_books.nd rfl) (sms_one (sm_for (T := (.one 4)) (im_val (em_call (ok_tables_so T) hr (am_cons (em_var 1) (am_cons (em_var 0) (am_nil))))) (gk_one 4 sc_all_books.nd rfl) (sms_one (sm_if (tm_isN (em_call (ok_broken_law T) hr (am_cons (em_var 0) (am_cons (em_var 3) (am_cons (em_var 4) (am_nil)))))) (sms_one (sm_app 2 (em_tup (am_cons (em_var 3) (am_cons (em_var 4) (am_nil)))))) (sms_nil))))))) (xms_one (xm_lift (sm_ret (em_tuple (em_var 2) T.n_tuple))))))))
end
/-- x(k = v, ..): keywords alone, all of the parameters in order -/
theorem pe_callW {X : Cx} {CX : CXT} {k : Nat} {f : Addr} {fd : FuncData} {ps : List Str} {sp : Sp} {E : L2.St → XK} {x : Str} {p pos : Pos} {kws : List Keyword} {tk : TA} (F : FnOk X.prog X.w X.K X.mg X.base CX k f fd ps sp) (hr : Room k X.A) (hg : Gl X x) (hm : X.mg x = some (.ref f)) (hk : PySem.W.keepIn X.K (.ref f) = true)
    (hb : ∀ (s : Shared) (us : List Value), us.length = ps.length → BindsTo s fd ⟨[], ps.zip us⟩ (ps.zip us)) (hx : ∀ σ, PassesAt CX X σ (E σ)) (hkw : PK X kws tk) (hall : (backToKw pos (keywordEach kws X.env)).all (·.1.isSome) = true) (hks : (backToKw pos (keywordEach kws X.env)).filterMap (·.1) = ps)
    (hdb : (x == ("__debug__" : Str)) = false) (hpl : ((backTo pos (starEach [] X.env)).any (·.1) || (backToKw pos (keywordEach kws X.env)).any (·.1.isNone)) = false) :
    PE X (.Call (.Name x p) [] kws pos) (fun σ H Q => tk σ H fun vs H1 => sp vs H1 Q (E σ)) := by
  refine ⟨fun pins s σ H Q I h => ?_⟩
  refine wpAny_Call_Name_kw (ld_glob I hg hm ?_ hdb)
  refine PySem.W.callWith_KW0 (h₀ := X.base) I.ok.mod.kin hk hall (thn (hkw.run pos pins s σ H _ I h) fun us s1 ⟨vs, H1, I1, r, q⟩ => ⟨I1.kIn, ?_⟩) hpl
  rw [hks]
  have hl : us.length = ps.length := by rw [← r.length]; exact F.len _ _ _ _ q
  refine wpAny_call (codeAny_mono (F.run X.A X.stack s1 H1 ⟨[], ps.zip us⟩ us vs Q (E σ) hr I1.env0 (hb s1 us hl) r q) fun z s2 hz => ?_)
  cases z with
  | error e => exact hx σ pins H1 s1 e s2 I1 hz
  | ok fl =>
    cases fl with
    | ret u => exact I1.after hz
    | next => exact False.elim hz
    | brk => exact False.elim hz
    | cont => exact False.elim hz
theorem ri_start {K : PySem.W.Frag} {T : List (Addr × Str)} {σ : L2.St} {H : Hp} {a c l : Addr} {n : Nat} (hl : σ.length = 3) (h1 : σ[1]? = some (some (.ref a))) (st : StOk H a c l n) (tb : LamX.Tabs T H) : RI K T [.no, .at_ (.ref a), .no] σ H a c l n := by
  refine ⟨⟨fun _ => none, ⟨hl, fun b o z => (by cases z), fun i k hk => ?_, fun i j ds es x _ hi => ?_⟩, rfl, rfl, fun b ps z => (by cases z)⟩, fun i es z => ?_, st, tb, fun i ds q hi => ?_⟩
  · match i, hk with
    | 0, hk => cases hk; trivial
    | 1, hk => cases hk; exact h1
    | 2, hk => cases hk; trivial
    | n + 3, hk => cases hk
  · match i, hi with
    | 0, hi => cases hi
    | 1, hi => cases hi
    | 2, hi => cases hi
    | n + 3, hi => cases hi
  · match i, z with
    | 0, hi => cases hi
    | 1, hi => cases hi
    | 2, hi => cases hi
    | n + 3, hi => cases hi
  · match i, hi with
    | 0, hi => cases hi
    | 1, hi => cases hi
    | 2, hi => cases hi
    | n + 3, hi => cases hi
theorem sc_law : FnScope ["_law_script", "_law_state", "_law_great"] ["_law_script"] (defScope s_law) := ⟨rfl, rfl, rfl, by decide +kernel, rfl, by decide +kernel, by decide +kernel⟩
section
variable {P : Program} {w : World} {K : PySem.W.Frag} {mg : Str → Option Value} {base : Heap} {CB CG CH : Addr}
def spLaw (K : PySem.W.Frag) : Sp := fun vs H Q _ => ∃ (r : Addr) (ns : List Int), vs = [.ref r] ∧ SqL K H r (ns.map V.int) ∧ ns.length ≤ 900 ∧ LamX.Tabs (tabs K) H ∧ ∀ H', Q (.bl true) H'
abbrev XL (P : Program) (w : World) (K : PySem.W.Frag) (mg : Str → Option Value) (base : Heap) (f : Addr) (cdv : Value) (A : Around) (outer : List Env) (s : Shared) (H : Hp) (E : XK) : Cx :=
  (cxOf CX0 P w K mg base ["_law_script", "_law_state", "_law_great"] "law" (defScope s_law) f cdv A outer s H E).nox
theorem ok_law (Z : TxG P K mg base CB CG CH) (hgood : ∀ h ∈ near12 ++ near5, goodB h = true) (hgreat : great8.all gmatchB = true) : DokG P w K mg base "law" 15 ["_law_script"] (spLaw K) := by
  have T := Z.T
  refine dokG T.t_law sc_law (fun _ _ _ _ _ _ us hl => match us, hl with | [_], _ => rfl) (fun vs H Q E h => ?_) ?_
  · obtain ⟨r, ns, rfl, _⟩ := h
    rfl
  · intro f cdv A outer s H vs Q E hr hgu hcode h
    obtain ⟨r, ns, rfl, hq, hlen, tb, q⟩ := h
    have S := sc_law
    have nmr : ∀ {G : Cn} {σ : L2.St} {H1 : Hp} {a c l : Addr} {n : Nat} {e : Expr} {ds : List PyData} {Q : VK}, NM (XL P w K mg base f cdv A outer s H E) e ds → RI K (tabs K) G σ H1 a c l n → (∀ v H', Same H1 H' → VOk K H1 H' v (.nl ds) → RI K (tabs K) G σ H' a c l n → Q v H') → wE (XL P w K mg base f cdv A outer s H E) e σ H1 Q := fun h R q => RI.nmr rfl h R q
    have three : (3 : Nat) ≤ sizeLine := by rw [sizeLine_eq]; omega
    -- _law_state = _law_begin(_law_script)
    obtain ⟨fdB, FB, bB⟩ := (ok__law_begin (P := P) (w := w) (base := base) T).ex
    have DB := ok__law_begin (P := P) (w := w) (base := base) T
    refine wSs_cons ?_
    refine wS_ex ⟨_, ps_set (i := 1) S.nd rfl (Or.inl rfl) (pe_call FB (hr.mono (by decide)) rfl DB.gl DB.kp bB .nil pass0 (pa_cons (pe_var (i := 0) rfl (Or.inl rfl)) pa_nil)), ?_⟩
    refine ⟨_, rfl, r, ns, rfl, hq, hlen, fun a c l H1 a0 c0 l0 e1 st1 => ?_⟩
    have tb1 : LamX.Tabs (tabs K) H1 := tb.ext fun b o h => e1 b o h
    -- if not _law_right(_law_state): return False
    obtain ⟨fdR, FR, bR⟩ := (ok__law_right (w := w) Z hgood).ex
    have DR := ok__law_right (w := w) Z hgood
    show wSs (XL P w K mg base f cdv A outer s H E) _ _ _ _
    refine wSs_cons ?_
    refine wS_ex ⟨_, ps_if (pt_not (pt_val (pe_callG (E := fun _ _ _ => False) FR hr hgu rfl DR.gl DR.kp bR (pa_cons (pe_var (i := 1) rfl (Or.inl rfl)) pa_nil)))) pss_w pss_nil, ?_⟩
    refine ⟨_, rfl, a, c, l, rfl, st1, tb1, fun n H2 hn st2 tb2 => ⟨true, rfl, ?_⟩⟩
    show (if (!true) = true then _ else _)
    rw [if_neg (by decide : ¬ ((!true) = true))]
    have R2 : RI K (tabs K) [.no, .at_ (.ref a), .no] ((L2.start ["_law_script", "_law_state", "_law_great"] [.ref r]).set 1 (some (.ref a))) H2 a c l n := ri_start rfl rfl st2 tb2
    -- _law_great = _law_of(_law_state, [..])
    obtain ⟨fdO, FO, bO⟩ := (ok__law_of (P := P) (w := w) (base := base) T).ex
    have DO := ok__law_of (P := P) (w := w) (base := base) T
    refine wSs_cons ?_
    refine wS_set (i := 2) ?_ ?_ ?_ ?_ ?_ ?_
    · exact S.nd
    · rfl
    · exact Or.inr rfl
    · rfl
    · exact Or.inl rfl
    refine wE_of (pe_call FO (hr.mono (by decide)) rfl DO.gl DO.kp bO .nil pass0 (pa_cons (pe_var (i := 1) rfl (Or.inl rfl)) (pa_cons pe_w pa_nil))) ?_
    refine ⟨_, rfl, ?_⟩
    have n1 := nm_g (X := XL P w K mg base f cdv A outer s H E)
    change wE (XL P w K mg base f cdv A outer s H E) (cArg 1 (aVal ((defBody s_law).getD 2 (.Pass ⟨0, 0, 0, 0⟩)))) _ _ _
    generalize cArg 1 (aVal ((defBody s_law).getD 2 (.Pass ⟨0, 0, 0, 0⟩))) = E1 at n1 ⊢
    refine nmr n1 R2 fun v2 H3 e3 o3 R3 => ?_
    obtain ⟨im3, q3, xs3, rfl, f3, g3, d3⟩ := o3
    have l3 := DpAll.length d3
    have q3a : q3 ≠ a := fun z => by
      rw [z, st2.dk] at f3
      cases f3
    have q3l : q3 ≠ l := fun z => by
      obtain ⟨_, _, _, hl3, _⟩ := st2.ce
      rw [z, hl3] at f3
      cases f3
    refine ⟨a, c, l, q3, n, xs3, rfl, R3.st, by omega, SqL.of g3, q3a, q3l, by rw [l3]; decide, by rw [l3]; decide, fun i v H4 hi st4 up4 => ?_⟩
    obtain ⟨great, hg, dg⟩ := d3.getV hi
    have hmem : great ∈ great8 := List.mem_of_getElem? hg
    have hm := great_of (List.all_eq_true.mp hgreat great hmem)
    have img := immAll_iff.mp im3 great hmem
    have R4 := (R3.up up4 st4).putIm (i := 2) rfl ⟨img, Dp.keep (up_tst R3.st up4) great v img dg⟩
    -- return _law_like(_law_heard(lambda: all_books(holder=_law_great)), ('great', 400, True))
    obtain ⟨fdL, FL, bL⟩ := (ok__law_like (P := P) (w := w) (base := base) T).ex
    have DL := ok__law_like (P := P) (w := w) (base := base) T
    obtain ⟨fdH, FH⟩ := T.t__law_heard.F
    have bH := FH.bindsN (ps := ["_law_call"]) (fun _ _ _ _ _ _ us hl => match us, hl with | [_], _ => rfl)
    have gH := T.t__law_heard.gl
    have kH := FH.kp
    obtain ⟨oc, od, dV, kV, doc, pm, an, cdh, ct, osl, rfl, lkH, hcdH, _, _⟩ := FH.ex
    obtain ⟨fdA, FA, NA⟩ := okf_all_books (P := P) (w := w) (base := base) T Z.U
    have bA : ∀ (s : Shared) (us : List Value), us.length = ["holder"].length → BindsTo s fdA ⟨[], (["holder"] : List Str).zip us⟩ ((["holder"] : List Str).zip us) := fun s us hl => by
      obtain ⟨oc, od, dV, kV, doc, pm, an, cdv, ct, osl, rfl, lk, hcd, hD, hK⟩ := FA.ex
      rcases hD with ⟨_, rfl⟩ | ⟨e, _⟩
      · match us, hl with
        | [u], _ => exact .of_eq rfl
      · exact absurd rfl e
    show wSs (XL P w K mg base f cdv A outer s H E) _ _ _ _
    refine wSs_ex ⟨_, pss_one (ps_ret (pe_callG (E := fun _ _ _ => False) FL (hr.mono (by decide)) hgu rfl DL.gl DL.kp bL
      (pa_cons (LamX.pe_lamcall (T := tabs K) (TT := TTh CB CG) (k := 12) (P := He.tabOf K (He.codeOf K ("law", none))) (c := He.codeOf K ("law", none)) rfl gH kH lkH hcdH bH sc__law_heard rfl (Or.inl rfl) (heard_gives T Z.U Z.V) Z.tL hcode (by unfold tabs; exact List.mem_cons_of_mem _ List.mem_cons_self) (tabs_l Z.ne) hr (LamX.lamS_by (by rfl)) rfl (fun _ _ _ _ _ => rfl)
        (fun A' outer' s' H' E' f' c' hr' => pe_callW NA (hr'.mono (by decide)) rfl (T.t_all_books).gl FA.kp bA (fun σ => passAt (takes_of rfl rfl rfl rfl) σ) (pk_cons (pe_var (i := 2) rfl (Or.inr (Or.inr rfl))) pk_nil) rfl rfl (by decide) rfl)) (pa_cons pe_w pa_nil)))), ?_⟩
    refine ⟨R4.tb, fun H13 e13 tb13 => ?_⟩
    have R5 := R4.ext e13 tb13
    obtain ⟨v2, h2, im2', d2'⟩ := R5.im (i := 2) rfl
    refine ⟨v2, h2, ⟨([.im great], .exc true (.int 400)), hm⟩, .cons ⟨im2', d2'⟩ .nil, fun dq H14 e14 o14 => .inr ⟨rfl, ?_⟩⟩
    obtain ⟨_, vv, hx, _, dv⟩ := o14
    have ev := dp_int dv
    subst ev
    refine ⟨dq, _, rfl, hx, fun q8 hq8 => ?_⟩
    have hup := same_upd (o := .tup [.str "great", .int 400, .bl true]) hq8
    have R6 := R5.later (e14.trans hup)
    refine RI.ek (X := XL P w K mg base f cdv A outer s H E) (k := .im greatD) rfl (ek_tup (ak_cons ek_str (ak_cons ek_int (ak_cons ek_bool ak_nil))) rfl (show 3 ≤ sizeLine from three)) R6 fun vd H15 e15 od R7 => ?_
    obtain ⟨_, dd⟩ := od
    obtain ⟨p7, rfl⟩ := dp_ref dd
    obtain ⟨kk', hk1', hk2'⟩ := shlOk_ok (d := greatD) (by decide +kernel)
    exact ⟨q8, p7, _, kk', rfl, Dp.same e15 _ _ (.tup (.inl (.inl upd_same)) (.cons (.str _) (.cons (.int _) (.cons (.bl _) .nil)))), dd, hk1', hk2', q _⟩
end
end Bk

set_option Elab.async false
set_option linter.all false
set_option maxRecDepth 100000
set_option maxHeartbeats 2000000
/-! the errors' classes, told by Bools of what the top leaves -/
namespace PySem
namespace BkX
open PySem.W PySem.Calls PyProof.Rows PySem.HandSPX
open L2 (defArgs defBody defScope)
abbrev FnC : Type := Option (Str × Str × Arguments × FuncBody × Scope × Addr × List Str × Addr)
def fnC (K : Frag) (a : Addr) : FnC := match K.lookup a with
  | some ⟨_, _, .func fd, _⟩ => some (fd.name, fd.qualname, fd.params, fd.body, fd.scope, fd.globals, fd.closure.map (·.1), fd.builtins)
  | _ => none
def iniA (K : Frag) (C : Addr) : Addr := He.ma K C "__init__"
def iniV (q : Str) (st : Stmt) : FnC := some ("__init__", q, defArgs (clsInit st), .stmts (defBody (clsInit st)), defScope (clsInit st), mainGlobals, ["__class__"], builtinsNs)
def cellB (K : Frag) (a C : Addr) : Bool := match K.lookup a with
  | some ⟨_, _, .cell (some (.ref c)), _⟩ => decide (c = C)
  | _ => false
def fileB (K : Frag) (cd : Value) (file : Str) : Bool := match cd with
  | .ref c => (match K.lookup c with
    | some ⟨_, _, .fields vs, _⟩ => (match (vs[2]? : Option Value) with
      | some (.str f _) => file == f
      | _ => false)
    | _ => false)
  | _ => false
def ini1 (K : Frag) (C : Addr) (file q : Str) (cd : Value) : List (Str × Addr) → Value → Bool
  | [(_, cc)], .none => cellB K cc C && (codeIn K cd q && fileB K cd file)
  | _, _ => false
def iniB (K : Frag) (C : Addr) (file q : Str) : Bool := match K.lookup (iniA K C) with
  | some ⟨_, _, .func fd, _⟩ => ini1 K C file q fd.code fd.closure fd.defaults
  | _ => false
theorem cellB_ok {K : Frag} {a C : Addr} (h : cellB K a C = true) : ∃ cl cld csl, K.lookup a = some ⟨cl, cld, .cell (some (.ref C)), csl⟩ := by
  unfold cellB at h
  split at h
  · rename_i cl cld c csl e
    have z := of_decide_eq_true h
    subst z
    exact ⟨_, _, _, e⟩
  · cases h
theorem fileB_ok {K : Frag} {cd : Value} {file : Str} (h : fileB K cd file = true) : ∃ (cda : Addr) (ccl : Value) (cdd : Option Addr) (vs : Array Value) (ccs : Array (Option Value)) (f : Str) (tf : Tok), cd = .ref cda ∧ K.lookup cda = some ⟨ccl, cdd, .fields vs, ccs⟩ ∧ vs[2]? = some (.str f tf) ∧ (file == f) = true := by
  unfold fileB at h
  split at h
  · rename_i c
    split at h
    · rename_i ccl cdd vs ccs e
      split at h
      · rename_i f tf e2
        exact ⟨_, _, _, _, _, _, _, rfl, e, e2, h⟩
      · cases h
    · cases h
  · cases h
theorem ini_ok {K : Frag} {C : Addr} {file q : Str} {st : Stmt} (e : fnC K (iniA K C) = iniV q st) (h : iniB K C file q = true) : ∃ (cda cc : Addr) (oc ccl cl : Value) (od cdd cld : Option Addr) (doc pm ct kV : Value) (an : Option Addr) (osl ccs csl : Array (Option Value)) (vs : Array Value) (f : Str) (tf : Tok),
    K.lookup (iniA K C) = some ⟨oc, od, .func (ksFn "__init__" q (defArgs (clsInit st)) (defBody (clsInit st)) (defScope (clsInit st)) .none kV doc pm an (.ref cda) ct cc), osl⟩ ∧ codeIn K (.ref cda) q = true ∧
    K.lookup cda = some ⟨ccl, cdd, .fields vs, ccs⟩ ∧ vs[2]? = some (.str f tf) ∧ (file == f) = true ∧ K.lookup cc = some ⟨cl, cld, .cell (some (.ref C)), csl⟩ := by
  unfold iniB at h
  unfold fnC at e
  cases lk : K.lookup (iniA K C) with
  | none =>
    rw [lk] at h
    cases h
  | some o =>
    obtain ⟨oc, od, dt, osl⟩ := o
    rw [lk] at h e
    cases dt with
    | func fd =>
      obtain ⟨n1, n2, n3, n4, n5, n6, n7, n8, n9, n10, n11, n12, n13, n14, n15⟩ := fd
      have e2 : (some (n1, n2, n3, n4, n5, n6, n7.map (·.1), n15) : FnC) = (some ("__init__", q, defArgs (clsInit st), .stmts (defBody (clsInit st)), defScope (clsInit st), mainGlobals, ["__class__"], builtinsNs) : FnC) := e
      simp only [Option.some.injEq, Prod.mk.injEq] at e2
      obtain ⟨h1, h2, h3, h4, h5, h6, h7, h8⟩ := e2
      subst h1 h2 h3 h4 h5 h6 h8
      have h' : ini1 K C file n2 n13 n7 n8 = true := h
      unfold ini1 at h'
      split at h'
      · rename_i y cc
        have hy : y = ("__class__" : Str) := by simpa using h7
        subst hy
        obtain ⟨k1, k2⟩ := He.ba h'
        obtain ⟨k3, k4⟩ := He.ba k2
        obtain ⟨cl, cld, csl, hc⟩ := cellB_ok k1
        obtain ⟨cda, ccl, cdd, vs, ccs, f, tf, rfl, f1, f2, f3⟩ := fileB_ok k4
        exact ⟨cda, cc, oc, ccl, cl, od, cdd, cld, n10, n11, n14, n9, n12, osl, ccs, csl, vs, f, tf, rfl, k3, f1, f2, f3, hc⟩
      · cases h'
    | _ => cases h
def clsB (K : Frag) (C : Addr) : Bool := match K.lookup C with
  | some ⟨.type t, _, .cls cd, sl⟩ => (match cd.mro, sl.toList with
    | .ref C' :: bm, [_, _, _, _, some (.builtin n), _] => decide (t = "type") && (decide (C' = C) && (decide (n = "ValueError.__new__") && (!cd.hasDel && (cd.hasDict && refsVE bm))))
    | _, _ => false)
  | _ => false
theorem clsB_ok {K : Frag} {C : Addr} (h : clsB K C = true) : ∃ nm q N bs bm sn sub ab col dd k0 k1 k2 k3 k5, K.lookup C = some (excClassObj nm q C N bs bm true sn sub ab col dd k0 k1 k2 k3 k5 "ValueError.__new__") ∧ refsVE bm = true := by
  unfold clsB at h
  split at h
  · rename_i t dd cd sl lk
    split at h
    · rename_i C' bm k0 k1 k2 k3 n k5 hm hs
      obtain ⟨h1, h⟩ := He.ba h
      obtain ⟨h2, h⟩ := He.ba h
      obtain ⟨h3, h⟩ := He.ba h
      obtain ⟨h4, h⟩ := He.ba h
      obtain ⟨h5, h6⟩ := He.ba h
      have z1 := of_decide_eq_true h1
      have z2 := of_decide_eq_true h2
      have z3 := of_decide_eq_true h3
      subst z1 z2 z3
      obtain ⟨nm, bs, mro, ns, qn, hd, sn, sub, ab, col, del⟩ := cd
      dsimp only at hm h4 h5
      subst hm
      have hd1 : hd = true := h5
      have hd2 : del = false := by simpa using h4
      subst hd1 hd2
      have hsl : sl = #[k0, k1, k2, k3, some (.builtin "ValueError.__new__"), k5] := by
        rw [← Array.toArray_toList (xs := sl), hs]
      subst hsl
      exact ⟨_, _, _, _, _, _, _, _, _, _, _, _, _, _, _, lk, h6⟩
    · cases h
  · cases h
def ownB (K : Frag) (fld : Str) (C : Addr) (file q : Str) : Bool :=
  clsB K C && (He.eqO (findIn K (.ref C) "__setattr__") (some (some (.builtin "object.__setattr__"))) && (He.eqO (findIn K (.ref C) "__getattribute__") (some (some (.builtin "BaseException.__getattribute__"))) && (He.eqO (findIn K (.ref C) "__getattr__") (some none) && (He.eqO (findIn K (.ref C) fld) (some none) &&
  (keepIn K (.ref C) && (decide (subIn K (.ref C) (.type "BaseException") = some true) && (decide (typeIn K (.ref C) = some (.type "type")) && (hasDictIn K C && (decide (mroIn K C (.ref C) = some true) && (decide (subIn K (.ref C) (.type "ValueError") = some true) &&
  (He.eqO (ks_superIn K C C "__init__") (some (some (.builtin "ValueError.__init__"))) && (excInitIn K C HandSPX.veTail "ValueError.__new__" && (He.eqO (nsIn K cStatics "thirdparty.any") (some none) && (He.eqO (findIn K (.ref C) "__init__") (some (some (.ref (iniA K C)))) && (decide (typeIn K (.ref (iniA K C)) = some (.type "function")) && iniB K C file q)))))))))))))))
theorem own_ok {P : Program} {K : Frag} {mg : Str → Option Value} {x fld q : Str} {C : Addr} {st : Stmt} {a1 a2 p0 p1 p2 p3 p4 p5 q1 q2 q3 q4 : Pos} (g : mg x = some (.ref C)) (noS : mg "super" = none) (top : (P.main.scope.names.lookup ("super" : Str)).isSome = false) (h : ownB K fld C P.main.file q = true) (e : fnC K (iniA K C) = iniV q st)
    (t1 : defArgs (clsInit st) = inArgs fld a1 a2) (t2 : defBody (clsInit st) = inBody fld p0 p1 p2 p3 p4 p5 q1 q2 q3 q4) (t3 : defScope (clsInit st) = inScope fld) (so : CallSo fld p0 p1 p2 p3 p4) : OwnTxt P K mg x fld C := by
  unfold ownB at h
  obtain ⟨h1, h⟩ := He.ba h
  obtain ⟨h2, h⟩ := He.ba h
  obtain ⟨h3, h⟩ := He.ba h
  obtain ⟨h4, h⟩ := He.ba h
  obtain ⟨h5, h⟩ := He.ba h
  obtain ⟨h6, h⟩ := He.ba h
  obtain ⟨h7, h⟩ := He.ba h
  obtain ⟨h8, h⟩ := He.ba h
  obtain ⟨h9, h⟩ := He.ba h
  obtain ⟨h10, h⟩ := He.ba h
  obtain ⟨h11, h⟩ := He.ba h
  obtain ⟨h12, h⟩ := He.ba h
  obtain ⟨h13, h⟩ := He.ba h
  obtain ⟨h14, h⟩ := He.ba h
  obtain ⟨h15, h⟩ := He.ba h
  obtain ⟨h16, h17⟩ := He.ba h
  obtain ⟨cda, cc, oc, ccl, cl, od, cdd, cld, doc, pm, ct, kV, an, osl, ccs, csl, vs, f, tf, k1, k2, k3, k4, k5, k6⟩ := ini_ok e h17
  rw [t1, t2, t3] at k1
  exact ⟨g, clsB_ok h1, He.eqO_ok h2, He.eqO_ok h3, He.eqO_ok h4, He.eqO_ok h5, h6, of_decide_eq_true h7, of_decide_eq_true h8, h9, of_decide_eq_true h10, of_decide_eq_true h11, He.eqO_ok h12, h13, He.eqO_ok h14, noS, top,
    ⟨iniA K C, cda, cc, oc, ccl, cl, od, cdd, cld, doc, pm, ct, kV, an, osl, ccs, csl, q, vs, f, tf, a1, a2, p0, p1, p2, p3, p4, p5, q1, q2, q3, q4, He.eqO_ok h15, of_decide_eq_true h16, k1, k2, k3, k4, k5, k6, so⟩⟩
def hrdB (K : Frag) (CB CG CH : Addr) : Bool := decide (kitCls K (.ref CB) (.ref CH) = some true) && (decide (kitCls K (.ref CG) (.ref CH) = some true) && (decide (CB ≠ CH) && (decide (CG ≠ CH) && (decide (exmOne K (.ref CB) (.ref CB) = some true) && (decide (exmOne K (.ref CG) (.ref CB) = some false) &&
  (decide (exmOne K (.ref CG) (.ref CG) = some true) && He.eqO (findIn K (.ref CG) "most") (some none)))))))
end BkX
end PySem
namespace Bk
open PySem PySem.Spec PyProof.Rows L2
theorem hrd_ok {K : PySem.W.Frag} {mg : Str → Option Value} {CB CG CH : Addr} (g : mg "HoldError" = some (.ref CH)) (h : PySem.BkX.hrdB K CB CG CH = true) : HCls K mg CB CG CH := by
  unfold PySem.BkX.hrdB at h
  obtain ⟨h1, h⟩ := He.ba h
  obtain ⟨h2, h⟩ := He.ba h
  obtain ⟨h3, h⟩ := He.ba h
  obtain ⟨h4, h⟩ := He.ba h
  obtain ⟨h5, h⟩ := He.ba h
  obtain ⟨h6, h⟩ := He.ba h
  obtain ⟨h7, h8⟩ := He.ba h
  exact ⟨g, of_decide_eq_true h1, of_decide_eq_true h2, of_decide_eq_true h3, of_decide_eq_true h4, of_decide_eq_true h5, of_decide_eq_true h6, of_decide_eq_true h7, He.eqO_ok h8⟩
end Bk

set_option Elab.async false
set_option linter.all false
set_option maxRecDepth 100000
set_option maxHeartbeats 0
/-! the head: what the top leaves, told by names -/
namespace Bk
open PySem PySem.Spec PyProof.Rows L2
def d_is_from : He.DefD := ⟨("is_from", none), "is_from", "is_from", defArgs s_is_from, defBody s_is_from, defScope s_is_from, [], []⟩
def d_is_holder : He.DefD := ⟨("is_holder", none), "is_holder", "is_holder", defArgs s_is_holder, defBody s_is_holder, defScope s_is_holder, [], []⟩
def d_need_holder : He.DefD := ⟨("need_holder", none), "need_holder", "need_holder", defArgs s_need_holder, defBody s_need_holder, defScope s_need_holder, [], []⟩
def d_power_so : He.DefD := ⟨("power_so", none), "power_so", "power_so", defArgs s_power_so, defBody s_power_so, defScope s_power_so, [], []⟩
def d_fillings_so : He.DefD := ⟨("fillings_so", none), "fillings_so", "fillings_so", defArgs s_fillings_so, defBody s_fillings_so, defScope s_fillings_so, [], []⟩
def d_rows_of : He.DefD := ⟨("rows_of", none), "rows_of", "rows_of", defArgs s_rows_of, defBody s_rows_of, defScope s_rows_of, [], []⟩
def d_own_so : He.DefD := ⟨("own_so", none), "own_so", "own_so", defArgs s_own_so, defBody s_own_so, defScope s_own_so, [], []⟩
def d_is_row : He.DefD := ⟨("is_row", none), "is_row", "is_row", defArgs s_is_row, defBody s_is_row, defScope s_is_row, [], []⟩
def d_done_so : He.DefD := ⟨("done_so", none), "done_so", "done_so", defArgs s_done_so, defBody s_done_so, defScope s_done_so, [], []⟩
def d_programs_so : He.DefD := ⟨("programs_so", none), "programs_so", "programs_so", defArgs s_programs_so, defBody s_programs_so, defScope s_programs_so, [], []⟩
def d_rows_to : He.DefD := ⟨("rows_to", none), "rows_to", "rows_to", defArgs s_rows_to, defBody s_rows_to, defScope s_rows_to, [], []⟩
def d_tables_so : He.DefD := ⟨("tables_so", none), "tables_so", "tables_so", defArgs s_tables_so, defBody s_tables_so, defScope s_tables_so, [], []⟩
def d_check_size : He.DefD := ⟨("check_size", none), "check_size", "check_size", defArgs s_check_size, defBody s_check_size, defScope s_check_size, [], []⟩
def d_greatest : He.DefD := ⟨("greatest", none), "greatest", "greatest", defArgs s_greatest, defBody s_greatest, defScope s_greatest, [], []⟩
def d_into_count : He.DefD := ⟨("into_count", none), "into_count", "into_count", defArgs s_into_count, defBody s_into_count, defScope s_into_count, [], []⟩
def d_into_so : He.DefD := ⟨("into_so", none), "into_so", "into_so", defArgs s_into_so, defBody s_into_so, defScope s_into_so, [], []⟩
def d_into_sizes : He.DefD := ⟨("into_sizes", none), "into_sizes", "into_sizes", defArgs s_into_sizes, defBody s_into_sizes, defScope s_into_sizes, [], []⟩
def d_number_so : He.DefD := ⟨("number_so", none), "number_so", "number_so", defArgs s_number_so, defBody s_number_so, defScope s_number_so, [], []⟩
def d_check_twice : He.DefD := ⟨("check_twice", none), "check_twice", "check_twice", defArgs s_check_twice, defBody s_check_twice, defScope s_check_twice, [], []⟩
def d_flat_so : He.DefD := ⟨("flat_so", none), "flat_so", "flat_so", defArgs s_flat_so, defBody s_flat_so, defScope s_flat_so, [], []⟩
def d_leaves_of : He.DefD := ⟨("leaves_of", none), "leaves_of", "leaves_of", defArgs s_leaves_of, defBody s_leaves_of, defScope s_leaves_of, [], []⟩
def d_unit_so : He.DefD := ⟨("unit_so", none), "unit_so", "unit_so", defArgs s_unit_so, defBody s_unit_so, defScope s_unit_so, [], []⟩
def d_broken_alone : He.DefD := ⟨("broken_alone", none), "broken_alone", "broken_alone", defArgs s_broken_alone, defBody s_broken_alone, defScope s_broken_alone, [], []⟩
def d_is_one_thrice : He.DefD := ⟨("is_one_thrice", none), "is_one_thrice", "is_one_thrice", defArgs s_is_one_thrice, defBody s_is_one_thrice, defScope s_is_one_thrice, [], []⟩
def d_broken_thrice : He.DefD := ⟨("broken_thrice", none), "broken_thrice", "broken_thrice", defArgs s_broken_thrice, defBody s_broken_thrice, defScope s_broken_thrice, [], []⟩
def d_broken_law : He.DefD := ⟨("broken_law", none), "broken_law", "broken_law", defArgs s_broken_law, defBody s_broken_law, defScope s_broken_law, [], []⟩
def d_is_table : He.DefD := ⟨("is_table", none), "is_table", "is_table", defArgs s_is_table, defBody s_is_table, defScope s_is_table, [], []⟩
def d_check_book : He.DefD := ⟨("check_book", none), "check_book", "check_book", defArgs s_check_book, defBody s_check_book, defScope s_check_book, [], []⟩
def d_need_book : He.DefD := ⟨("need_book", none), "need_book", "need_book", defArgs s_need_book, defBody s_need_book, defScope s_need_book, [], []⟩
def d_all_books : He.DefD := ⟨("all_books", none), "all_books", "all_books", defArgs s_all_books, defBody s_all_books, defScope s_all_books, [], []⟩
def d__law_mixed : He.DefD := ⟨("_law_mixed", none), "_law_mixed", "_law_mixed", defArgs s__law_mixed, defBody s__law_mixed, defScope s__law_mixed, [], []⟩
def d__law_begin : He.DefD := ⟨("_law_begin", none), "_law_begin", "_law_begin", defArgs s__law_begin, defBody s__law_begin, defScope s__law_begin, [], []⟩
def d__law_draw : He.DefD := ⟨("_law_draw", none), "_law_draw", "_law_draw", defArgs s__law_draw, defBody s__law_draw, defScope s__law_draw, [], []⟩
def d__law_of : He.DefD := ⟨("_law_of", none), "_law_of", "_law_of", defArgs s__law_of, defBody s__law_of, defScope s__law_of, [], []⟩
def d__law_rows : He.DefD := ⟨("_law_rows", none), "_law_rows", "_law_rows", defArgs s__law_rows, defBody s__law_rows, defScope s__law_rows, [], []⟩
def d__law_fillings : He.DefD := ⟨("_law_fillings", none), "_law_fillings", "_law_fillings", defArgs s__law_fillings, defBody s__law_fillings, defScope s__law_fillings, [], []⟩
def d__law_done : He.DefD := ⟨("_law_done", none), "_law_done", "_law_done", defArgs s__law_done, defBody s__law_done, defScope s__law_done, [], []⟩
def d__law_tables : He.DefD := ⟨("_law_tables", none), "_law_tables", "_law_tables", defArgs s__law_tables, defBody s__law_tables, defScope s__law_tables, [], []⟩
def d__law_like : He.DefD := ⟨("_law_like", none), "_law_like", "_law_like", defArgs s__law_like, defBody s__law_like, defScope s__law_like, [], []⟩
def d__law_inside : He.DefD := ⟨("_law_inside", none), "_law_inside", "_law_inside", defArgs s__law_inside, defBody s__law_inside, defScope s__law_inside, [], []⟩
def d__law_parts : He.DefD := ⟨("_law_parts", none), "_law_parts", "_law_parts", defArgs s__law_parts, defBody s__law_parts, defScope s__law_parts, [], []⟩
def d__law_flat : He.DefD := ⟨("_law_flat", none), "_law_flat", "_law_flat", defArgs s__law_flat, defBody s__law_flat, defScope s__law_flat, [], []⟩
def d__law_heard : He.DefD := ⟨("_law_heard", none), "_law_heard", "_law_heard", defArgs s__law_heard, defBody s__law_heard, defScope s__law_heard, [], []⟩
def d__law_alone_held : He.DefD := ⟨("_law_alone_held", none), "_law_alone_held", "_law_alone_held", defArgs s__law_alone_held, defBody s__law_alone_held, defScope s__law_alone_held, [], []⟩
def d__law_joins_held : He.DefD := ⟨("_law_joins_held", none), "_law_joins_held", "_law_joins_held", defArgs s__law_joins_held, defBody s__law_joins_held, defScope s__law_joins_held, [], []⟩
def d__law_is_book : He.DefD := ⟨("_law_is_book", none), "_law_is_book", "_law_is_book", defArgs s__law_is_book, defBody s__law_is_book, defScope s__law_is_book, [], []⟩
def d__law_tried : He.DefD := ⟨("_law_tried", none), "_law_tried", "_law_tried", defArgs s__law_tried, defBody s__law_tried, defScope s__law_tried, [], []⟩
def d__law_right : He.DefD := ⟨("_law_right", none), "_law_right", "_law_right", defArgs s__law_right, defBody s__law_right, defScope s__law_right, [], []⟩
def d_law : He.DefD := ⟨("law", none), "law", "law", defArgs s_law, defBody s_law, defScope s_law, [], []⟩
def fn : List He.DefD := [d_is_from, d_is_holder, d_need_holder, d_power_so, d_fillings_so, d_rows_of, d_own_so, d_is_row, d_done_so, d_programs_so, d_rows_to, d_tables_so, d_check_size, d_greatest, d_into_count, d_into_so, d_into_sizes, d_number_so, d_check_twice, d_flat_so, d_leaves_of, d_unit_so, d_broken_alone, d_is_one_thrice, d_broken_thrice, d_broken_law, d_is_table, d_check_book, d_need_book, d_all_books, d__law_mixed, d__law_begin, d__law_draw, d__law_of, d__law_rows, d__law_fillings, d__law_done, d__law_tables, d__law_like, d__law_inside, d__law_parts, d__law_flat, d__law_heard, d__law_alone_held, d__law_joins_held, d__law_is_book, d__law_tried, d__law_right, d_law]
def fa1 : List He.Fa := [.glo "is_from", .glo "is_holder", .glo "need_holder", .glo "power_so", .glo "fillings_so", .glo "rows_of", .glo "own_so", .glo "is_row", .glo "done_so", .glo "programs_so", .glo "rows_to", .glo "tables_so", .glo "check_size", .glo "greatest", .glo "into_count", .glo "into_so", .glo "into_sizes", .glo "number_so", .glo "check_twice", .glo "flat_so", .glo "leaves_of", .glo "unit_so"]
def fa2 : List He.Fa := [.glo "broken_alone", .glo "is_one_thrice", .glo "broken_thrice", .glo "broken_law", .glo "is_table", .glo "check_book", .glo "need_book", .glo "all_books", .glo "_law_mixed", .glo "_law_begin", .glo "_law_draw", .glo "_law_of", .glo "_law_rows", .glo "_law_fillings", .glo "_law_done", .glo "_law_tables", .glo "_law_like", .glo "_law_inside", .glo "_law_parts", .glo "_law_flat", .glo "_law_heard", .glo "_law_alone_held", .glo "_law_joins_held", .glo "_law_is_book", .glo "_law_tried", .glo "_law_right", .glo "law"]
def fa3 : List He.Fa := [.glo "HoldError", .glo "BadHolder", .glo "BadBook", .glo "TooGreat", .int "MOST_SHAPES" 60, .int "MOST_PLACES" 12, .int "MOST_LISTED" 400, .int "MOST_THRICE" 5000, .free "isinstance", .free "int", .free "bool", .free "tuple", .free "len", .free "range", .free "sum", .free "list", .free "enumerate", .free "max", .free "zip", .free "repr", .free "super", .free "ValueError"]
def fa : List He.Fa := fa1 ++ (fa2 ++ fa3)
def tf : List He.Defn := [("_law_right", none), ("law", none)]
abbrev R : PySem.W.OpenRow := PySem.W.OpenLaw.row PySem.Challenge.rw_holdfills_k46_whole_all_books_tried
def fileR : Str := R.prog.main.file
def ex (K : PySem.W.Frag) : Bool := PySem.BkX.ownB K "place" (He.ga K "BadBook") fileR "BadBook.__init__" && (PySem.BkX.ownB K "most" (He.ga K "TooGreat") fileR "TooGreat.__init__" && (PySem.BkX.hrdB K (He.ga K "BadBook") (He.ga K "TooGreat") (He.ga K "HoldError") && decide (He.tabOf K (He.codeOf K ("_law_right", none)) ≠ He.tabOf K (He.codeOf K ("law", none)))))
def clsF (K : PySem.W.Frag) : List PySem.BkX.FnC := [PySem.BkX.fnC K (PySem.BkX.iniA K (He.ga K "BadBook")), PySem.BkX.fnC K (PySem.BkX.iniA K (He.ga K "TooGreat"))]
def clsV : List PySem.BkX.FnC := [PySem.BkX.iniV "BadBook.__init__" (top 3), PySem.BkX.iniV "TooGreat.__init__" (top 4)]
def asB (g : Addr → Option Obj) : List Addr := cStatics :: He.asD g 6
abbrev AlB : Type := He.AlX × List PySem.BkX.FnC
def obsK (g : Addr → Option Obj) (K : PySem.W.Frag) : AlB := ((He.obsT fa fn [] K, ex K && He.tabsB g tf K), clsF K)
def obsB (g : Addr → Option Obj) : AlB := obsK g (He.frT g (asB g))
def valB (w : World) : AlB := (He.valX fn [] w, clsV)
theorem saysG {as : List Addr} {w : World} {h : Heap} (e : obsK h.get? (He.frT h.get? as) = valB w) : He.SaysX fa fn [] tf ex w h (He.frT h.get? as) ∧ clsF (He.frT h.get? as) = clsV := by
  have e1 : He.obsT fa fn [] (He.frT h.get? as) = He.valT fn [] w := congrArg (fun z : AlB => z.1.1) e
  have e2 : (ex (He.frT h.get? as) && He.tabsB h.get? tf (He.frT h.get? as)) = true := congrArg (fun z : AlB => z.1.2) e
  obtain ⟨h1, h2⟩ := He.ba e2
  have told : ∀ p ∈ tf, PySem.W.codeHdIn (He.frT h.get? as) (He.cT (He.frT h.get? as) p).1 (He.cT (He.frT h.get? as) p).2 = true ∧ ∃ o, h.get? (He.cT (He.frT h.get? as) p).2 = some o ∧ He.emptyTab o = true := fun p hp => by
    obtain ⟨h3, h4⟩ := He.ba (List.all_eq_true.mp h2 p hp)
    refine ⟨h3, ?_⟩
    split at h4
    · rename_i o q
      exact ⟨o, q, h4⟩
    · cases h4
  refine ⟨⟨e1, h1, fun p hp => (told p hp).1, fun p hp => ?_, fun p hp => ?_⟩, congrArg (fun z : AlB => z.2) e⟩
  · obtain ⟨_, o, q, z⟩ := told p hp
    exact He.frT_none q z
  · obtain ⟨_, o, q, z⟩ := told p hp
    rw [q, He.emptyTab_eq z]
def hk : PySem.W.Hook where
  α := AlB
  obs := fun s => obsB s.heap.get?
  val := valB
  says := fun w h => ∃ K : PySem.W.Frag, K.In h ∧ He.SaysX fa fn [] tf ex w h K ∧ clsF K = clsV
  of := fun _ _ e => ⟨_, He.frT_in, saysG e⟩
  keeps := fun _ _ _ ⟨K, hK, c, d⟩ k => ⟨K, PySem.W.Frag.In.keeps hK k, ⟨c.t, c.more, c.hd, c.out, fun p hp => k _ _ (c.empty p hp)⟩, d⟩
def ob (s : PySem.W.SharedT) : AlB := obsB (HandSHeadRun.getT s)
theorem ob_eq (s : PySem.W.SharedT) : ob s = hk.obs s.abs := by
  have e : HandSHeadRun.getT s = s.abs.heap.get? := funext (HandSHeadRun.getT_eq s)
  unfold ob
  rw [e]
  rfl
def loose1 : List PySem.Str := ["HoldError", "BadHolder", "BadBook", "TooGreat", "MOST_SHAPES", "MOST_PLACES", "MOST_LISTED", "MOST_THRICE", "is_from", "is_holder", "need_holder", "power_so", "fillings_so", "rows_of", "own_so", "is_row", "done_so", "programs_so", "rows_to", "tables_so", "check_size", "greatest", "into_count", "into_so", "into_sizes", "number_so", "check_twice", "flat_so", "leaves_of", "unit_so"]
def loose2 : List PySem.Str := ["broken_alone", "is_one_thrice", "broken_thrice", "broken_law", "is_table", "check_book", "need_book", "all_books", "_law_mixed", "_law_begin", "_law_draw", "_law_of", "_law_rows", "_law_fillings", "_law_done", "_law_tables", "_law_like", "_law_inside", "_law_parts", "_law_flat", "_law_heard", "_law_alone_held", "_law_joins_held", "_law_is_book", "_law_tried", "_law_right"]
def loose : List PySem.Str := loose1 ++ loose2
theorem run (w : World) : HandSHeadRun.RunEq R (PySem.W.view R.prog [64]) hk ob 6000 loose w := by
  intro os
  kernel_rfl
end Bk

set_option Elab.async false
set_option linter.all false
set_option maxRecDepth 100000
set_option maxHeartbeats 2000000
/-! the end: the law's def called at the head's heap -/
namespace Bk
open PySem PySem.Spec PyProof.Rows L2
/-- what is tracked at the call: the tables, and the script where the fragment has it not -/
def openH (K : PySem.W.Frag) (a : Addr) (o : Obj) (xs : List V) (ts : List Addr) : Hp := fun b => if b ∈ ts then some (.tbl #[]) else if b = a ∧ K.lookup a = none then some (.frz o (.lst xs)) else none
theorem openH_tab {K : PySem.W.Frag} {a b : Addr} {o : Obj} {xs : List V} {ts : List Addr} (h : b ∈ ts) : openH K a o xs ts b = some (.tbl #[]) := if_pos h
theorem openH_inv {K : PySem.W.Frag} {a b : Addr} {o : Obj} {xs : List V} {ts : List Addr} {u : HO} (h : openH K a o xs ts b = some u) : (b ∈ ts ∧ u = .tbl #[]) ∨ (b = a ∧ K.lookup a = none ∧ u = .frz o (.lst xs)) := by
  unfold openH at h
  split at h
  · cases h
    exact .inl ⟨by assumption, rfl⟩
  · split at h
    · rename_i z
      cases h
      exact .inr ⟨z.1, z.2, rfl⟩
    · cases h
theorem call_tabs {P : Program} {w : World} {K : PySem.W.Frag} {mg mb : Str → Option Value} {k : Nat} {f a : Addr} {cs : List (Addr × Addr)} {x : Str} {sp : Sp} {t : Shared} {us : List Value} {ns : List Int}
    (kin : K.In t.heap) (gl : t.heap.Ns mainGlobals mg) (bn : t.heap.Ns builtinsNs mb) (bb : ∀ x : Str, x ≠ "__name__" → mb x = bootBuiltins x) (lim : t.heap.NoLimit) (ng : t.gens = #[])
    (et : ∀ p ∈ cs, t.heap.get? p.2 = some { cls := .none, data := .fields #[] }) (nk : ∀ p ∈ cs, K.lookup p.2 = none) (cdh : ∀ p ∈ cs, PySem.W.CodeHd t.heap p.1 p.2)
    (bmod : ∃ (q : Addr) (o : Obj), mg "__builtins__" = some (.ref q) ∧ q ≠ builtinsNs ∧ t.heap.get? q = some o ∧ o.cls = .type "module" ∧ o.dict = some builtinsNs ∧ o.data = .plain)
    (la : t.heap.get? a = some { cls := .type "list", data := .seq us.toArray }) (ia : IntsAre us ns) (ll : ns.length ≤ sizeLine) (room : Room k callerA) (gu : callerA.guards = some [])
    (pr : ∀ base : Heap, K.In base → base.Ns mainGlobals mg → (∀ p ∈ cs, LamX.TabB base mg p.1 p.2) → ∃ fd, FnG P w K mg base k f fd [x] sp ∧ Binds K fd [x] [])
    (asked : ∀ Z : Hp, (∀ p ∈ cs, Z p.2 = some (.tbl #[])) → SqL K Z a (ns.map V.int) → sp [.ref a] Z (fun v _ => v = .bl true) fun _ _ _ => False) :
    codeAny (model P w) callerA (.call (.ref f) ⟨[.ref a], []⟩) (fun r s' => r = .ok (.ret (.bool true)) ∧ OldK t.heap s'.heap ∧ s'.os = t.os ∧ AllBare s'.gens) t := by
  have iv := vals_ints ia
  have lu := ia.length
  generalize hts : cs.map (·.2) = ts
  have intab : ∀ p ∈ cs, p.2 ∈ ts := fun p hp => by
    rw [← hts]
    exact List.mem_map.mpr ⟨p, hp, rfl⟩
  have fromtab : ∀ b ∈ ts, ∃ p ∈ cs, p.2 = b := fun b hb => by
    rw [← hts] at hb
    exact List.mem_map.mp hb
  have tabobj : ∀ b ∈ ts, t.heap.get? b = some { cls := .none, data := .fields #[] } := fun b hb => by
    obtain ⟨p, hp, rfl⟩ := fromtab b hb
    exact et p hp
  generalize hZ : openH K a { cls := .type "list", data := .seq us.toArray } (ns.map V.int) ts = Z
  have Zt : ∀ p ∈ cs, Z p.2 = some (.tbl #[]) := fun p hp => by
    rw [← hZ]
    exact openH_tab (intab p hp)
  have Zi : ∀ {b : Addr} {u : HO}, Z b = some u → (b ∈ ts ∧ u = .tbl #[]) ∨ (b = a ∧ K.lookup a = none ∧ u = .frz { cls := .type "list", data := .seq us.toArray } (.lst (ns.map V.int))) := fun {b u} h => openH_inv (by rw [hZ]; exact h)
  have anot : a ∉ ts := fun z => by
    have e := tabobj a z
    rw [la] at e
    injection e with e
    injection e with e1 e2 e3
    cases e3
  have seq : SqL K Z a (ns.map V.int) := by
    cases lk : K.lookup a with
    | none =>
      refine .inl (.inr ⟨{ cls := .type "list", data := .seq us.toArray }, ?_⟩)
      rw [← hZ]
      exact (if_neg anot).trans (if_pos ⟨rfl, lk⟩)
    | some o =>
      have e := kin a o lk
      rw [la] at e
      cases e
      exact .inr ⟨_, us.toArray, _, lk, rfl, rfl, rfl, by rw [List.size_toArray, lu]; exact ll, by simpa using iv⟩
  -- what is hidden from the base heap is a table or the script
  have free_of : ∀ {b : Addr} {o : Obj}, t.heap.get? b = some o → (∀ xs n, o.data ≠ .seq xs n) → o.data ≠ .fields #[] → Z b = none := fun {b o} e d1 d2 => by
    cases q : Z b with
    | none => rfl
    | some u =>
      exfalso
      rcases Zi q with ⟨hb, _⟩ | ⟨rfl, _⟩
      · rw [tabobj b hb] at e
        cases e
        exact d2 rfl
      · rw [la] at e
        cases e
        exact d1 _ _ rfl
  have seen : ∀ {b : Addr} {o : Obj}, t.heap.get? b = some o → Z b = none → (hidT t.heap Z).get? b = some o := fun e z => hidT_get e z
  have space : ∀ {b : Addr} {m : Str → Option Value}, t.heap.Ns b m → (hidT t.heap Z).Ns b m := fun {b m} ⟨o, es, ep, e, d, r⟩ =>
    ⟨o, es, ep, seen e (free_of e (fun xs n z => by rw [d] at z; cases z) (fun z => by rw [d] at z; cases z)), d, r⟩
  have kinZ : K.In (hidT t.heap Z) := fun b o e => seen (kin b o e) (by
    cases q : Z b with
    | none => rfl
    | some u =>
      exfalso
      rcases Zi q with ⟨hb, _⟩ | ⟨rfl, no, _⟩
      · obtain ⟨p, hp, rfl⟩ := fromtab b hb
        rw [nk p hp] at e
        cases e
      · rw [no] at e
        cases e)
  have modZ : L2.Mod K mg (hidT t.heap Z) := by
    obtain ⟨mc, c1, c2⟩ := lim
    exact ⟨kinZ, space gl, ⟨mb, space bn, bb⟩, ⟨mc, space c1, c2⟩⟩
  have tabZ : ∀ p ∈ cs, LamX.TabB (hidT t.heap Z) mg p.1 p.2 := fun p hp => by
    have ep := et p hp
    refine ⟨?_, ?_, fun z => ?_⟩
    · obtain ⟨o, ys, file, tf, flags, tg, inF, text, tt, e1, r1, r2, r3, r4, r5, r6, r7, r8, last⟩ := cdh p hp
      refine ⟨o, ys, file, tf, flags, tg, inF, text, tt, seen e1 (free_of e1 (fun xs n z => ?_) (fun z => ?_)), r1, r2, r3, r4, r5, r6, r7, r8, last⟩
      · rw [r2] at z
        cases z
      · rw [r2] at z
        cases z
        simp at r3
    · obtain ⟨q, o, b1, b2, b3, b4, b5, b6⟩ := bmod
      refine ⟨q, o, b1, b2, fun z => ?_, fun z => ?_, seen b3 (free_of b3 (fun xs n z => ?_) (fun z => ?_)), b4, b5, b6⟩
      · obtain ⟨o', es, n, e, d, _⟩ := gl
        rw [z, e] at b3
        cases b3
        rw [d] at b6
        cases b6
      · rw [z, ep] at b3
        cases b3
        cases b6
      · rw [b6] at z
        cases z
      · rw [b6] at z
        cases z
    · obtain ⟨o', es, n, e, d, _⟩ := gl
      rw [z, ep] at e
      cases e
      cases d
  have okZ : HOk P w Z t.heap := fun b u h => by
    rcases Zi h with ⟨hb, rfl⟩ | ⟨rfl, _, rfl⟩
    · exact tabobj b hb
    · exact ⟨la, by rw [List.length_map]; exact ll, us, _, iv, la⟩
  have env : Env0 P w K mg (hidT t.heap Z) callerA [] t Z := ⟨rfl, modZ, fun b o e => of_hidT e, Nat.le_of_eq (hidT_size _ _), trivial, fun b hb => absurd (show b ∈ ([] : List Addr) from hb) (by simp), okZ, .of_eq ng⟩
  obtain ⟨fd, held, bound⟩ := pr _ kinZ (space gl) tabZ
  refine codeAny_mono (held.run callerA [] t Z ⟨[.ref a], []⟩ [.ref a] [.ref a] _ _ room gu env (bound t [.ref a] kin rfl) (.cons rfl .nil) (asked Z Zt seq)) fun r s' out => ?_
  cases r with
  | error e => exact (show False from out).elim
  | ok fl =>
    cases fl with
    | next => exact False.elim out
    | brk => exact False.elim out
    | cont => exact False.elim out
    | ret u =>
      obtain ⟨v, Z', os, bare, un, okZ', rv, hv⟩ := out
      have hv' : v = .bl true := hv
      subst hv'
      obtain rfl : u = Value.bool true := rv
      have stay : ∀ b o, b ∉ ts → t.heap.get? b = some o → s'.heap.get? b = some o := fun b o nb e => by
        cases q : Z b with
        | none => exact un.keep b o e q (by intro z; exact absurd (show b ∈ ([] : List Addr) from z) (by simp)) (by simp)
        | some u =>
          rcases Zi q with ⟨hb, _⟩ | ⟨rfl, _, rfl⟩
          · exact absurd hb nb
          · obtain ⟨e2, _⟩ := okZ' b _ (un.frzs b _ _ q)
            rw [la] at e
            cases e
            exact e2
      have grow : ∀ b ∈ ts, ∃ more : Array Value, s'.heap.get? b = some { cls := .none, data := .fields more } := fun b hb => by
        obtain ⟨p, hp, rfl⟩ := fromtab b hb
        obtain ⟨more, z⟩ := un.tbls p.2 #[] (Zt p hp)
        exact ⟨_, okZ' p.2 _ z⟩
      refine ⟨rfl, ⟨fun b o e => ?_, fun b o e => ?_⟩, os, bare⟩
      · by_cases hb : b ∈ ts
        · obtain ⟨more, hm⟩ := grow b hb
          rw [tabobj b hb] at e
          cases e
          obtain ⟨p, hp, rfl⟩ := fromtab b hb
          exact .inr (.inl ⟨((cdh p hp).tab (et p hp)).isCodeTable, rfl, #[], more, rfl, by rw [Array.empty_append]; exact hm⟩)
        · exact .inl (stay b o hb e)
      · by_cases hb : b ∈ ts
        · obtain ⟨more, hm⟩ := grow b hb
          exact ⟨_, hm⟩
        · exact ⟨o, stay b o hb e⟩
end Bk

set_option Elab.async false
set_option linter.all false
set_option maxRecDepth 100000
set_option maxHeartbeats 0
/-! what the head tells, put together; the end -/
namespace Bk
open PySem PySem.Spec PyProof.Rows L2
theorem callSo_2 : PySem.BkX.CallSo "most" ⟨17, 8, 17, 13⟩ ⟨17, 8, 17, 15⟩ ⟨17, 8, 17, 24⟩ ⟨17, 25, 17, 29⟩ ⟨17, 8, 17, 30⟩ := ⟨_, fun _ => by rfl⟩
section
variable {w : World} {K : PySem.W.Frag} {h : Heap} {mg : Str → Option Value}
theorem txt_all (X : K.In h) (G : h.Ns mainGlobals mg) (c : He.SaysX fa fn [] tf ex w h K) : TxA K mg where
  t_is_from := ⟨c.t.d.def_ 0 (d := d_is_from) rfl, He.glo_ok X G (c.t.d.fact 0 (f := .glo "is_from") rfl)⟩
  t_is_holder := ⟨c.t.d.def_ 1 (d := d_is_holder) rfl, He.glo_ok X G (c.t.d.fact 1 (f := .glo "is_holder") rfl)⟩
  t_need_holder := ⟨c.t.d.def_ 2 (d := d_need_holder) rfl, He.glo_ok X G (c.t.d.fact 2 (f := .glo "need_holder") rfl)⟩
  t_power_so := ⟨c.t.d.def_ 3 (d := d_power_so) rfl, He.glo_ok X G (c.t.d.fact 3 (f := .glo "power_so") rfl)⟩
  t_fillings_so := ⟨c.t.d.def_ 4 (d := d_fillings_so) rfl, He.glo_ok X G (c.t.d.fact 4 (f := .glo "fillings_so") rfl)⟩
  t_rows_of := ⟨c.t.d.def_ 5 (d := d_rows_of) rfl, He.glo_ok X G (c.t.d.fact 5 (f := .glo "rows_of") rfl)⟩
  t_own_so := ⟨c.t.d.def_ 6 (d := d_own_so) rfl, He.glo_ok X G (c.t.d.fact 6 (f := .glo "own_so") rfl)⟩
  t_is_row := ⟨c.t.d.def_ 7 (d := d_is_row) rfl, He.glo_ok X G (c.t.d.fact 7 (f := .glo "is_row") rfl)⟩
  t_done_so := ⟨c.t.d.def_ 8 (d := d_done_so) rfl, He.glo_ok X G (c.t.d.fact 8 (f := .glo "done_so") rfl)⟩
  t_programs_so := ⟨c.t.d.def_ 9 (d := d_programs_so) rfl, He.glo_ok X G (c.t.d.fact 9 (f := .glo "programs_so") rfl)⟩
  t_rows_to := ⟨c.t.d.def_ 10 (d := d_rows_to) rfl, He.glo_ok X G (c.t.d.fact 10 (f := .glo "rows_to") rfl)⟩
  t_tables_so := ⟨c.t.d.def_ 11 (d := d_tables_so) rfl, He.glo_ok X G (c.t.d.fact 11 (f := .glo "tables_so") rfl)⟩
  t_check_size := ⟨c.t.d.def_ 12 (d := d_check_size) rfl, He.glo_ok X G (c.t.d.fact 12 (f := .glo "check_size") rfl)⟩
  t_greatest := ⟨c.t.d.def_ 13 (d := d_greatest) rfl, He.glo_ok X G (c.t.d.fact 13 (f := .glo "greatest") rfl)⟩
  t_into_count := ⟨c.t.d.def_ 14 (d := d_into_count) rfl, He.glo_ok X G (c.t.d.fact 14 (f := .glo "into_count") rfl)⟩
  t_into_so := ⟨c.t.d.def_ 15 (d := d_into_so) rfl, He.glo_ok X G (c.t.d.fact 15 (f := .glo "into_so") rfl)⟩
  t_into_sizes := ⟨c.t.d.def_ 16 (d := d_into_sizes) rfl, He.glo_ok X G (c.t.d.fact 16 (f := .glo "into_sizes") rfl)⟩
  t_number_so := ⟨c.t.d.def_ 17 (d := d_number_so) rfl, He.glo_ok X G (c.t.d.fact 17 (f := .glo "number_so") rfl)⟩
  t_check_twice := ⟨c.t.d.def_ 18 (d := d_check_twice) rfl, He.glo_ok X G (c.t.d.fact 18 (f := .glo "check_twice") rfl)⟩
  t_flat_so := ⟨c.t.d.def_ 19 (d := d_flat_so) rfl, He.glo_ok X G (c.t.d.fact 19 (f := .glo "flat_so") rfl)⟩
  t_leaves_of := ⟨c.t.d.def_ 20 (d := d_leaves_of) rfl, He.glo_ok X G (c.t.d.fact 20 (f := .glo "leaves_of") rfl)⟩
  t_unit_so := ⟨c.t.d.def_ 21 (d := d_unit_so) rfl, He.glo_ok X G (c.t.d.fact 21 (f := .glo "unit_so") rfl)⟩
  t_broken_alone := ⟨c.t.d.def_ 22 (d := d_broken_alone) rfl, He.glo_ok X G (c.t.d.fact 22 (f := .glo "broken_alone") rfl)⟩
  t_is_one_thrice := ⟨c.t.d.def_ 23 (d := d_is_one_thrice) rfl, He.glo_ok X G (c.t.d.fact 23 (f := .glo "is_one_thrice") rfl)⟩
  t_broken_thrice := ⟨c.t.d.def_ 24 (d := d_broken_thrice) rfl, He.glo_ok X G (c.t.d.fact 24 (f := .glo "broken_thrice") rfl)⟩
  t_broken_law := ⟨c.t.d.def_ 25 (d := d_broken_law) rfl, He.glo_ok X G (c.t.d.fact 25 (f := .glo "broken_law") rfl)⟩
  t_is_table := ⟨c.t.d.def_ 26 (d := d_is_table) rfl, He.glo_ok X G (c.t.d.fact 26 (f := .glo "is_table") rfl)⟩
  t_check_book := ⟨c.t.d.def_ 27 (d := d_check_book) rfl, He.glo_ok X G (c.t.d.fact 27 (f := .glo "check_book") rfl)⟩
  t_need_book := ⟨c.t.d.def_ 28 (d := d_need_book) rfl, He.glo_ok X G (c.t.d.fact 28 (f := .glo "need_book") rfl)⟩
  t_all_books := ⟨c.t.d.def_ 29 (d := d_all_books) rfl, He.glo_ok X G (c.t.d.fact 29 (f := .glo "all_books") rfl)⟩
  t__law_mixed := ⟨c.t.d.def_ 30 (d := d__law_mixed) rfl, He.glo_ok X G (c.t.d.fact 30 (f := .glo "_law_mixed") rfl)⟩
  t__law_begin := ⟨c.t.d.def_ 31 (d := d__law_begin) rfl, He.glo_ok X G (c.t.d.fact 31 (f := .glo "_law_begin") rfl)⟩
  t__law_draw := ⟨c.t.d.def_ 32 (d := d__law_draw) rfl, He.glo_ok X G (c.t.d.fact 32 (f := .glo "_law_draw") rfl)⟩
  t__law_of := ⟨c.t.d.def_ 33 (d := d__law_of) rfl, He.glo_ok X G (c.t.d.fact 33 (f := .glo "_law_of") rfl)⟩
  t__law_rows := ⟨c.t.d.def_ 34 (d := d__law_rows) rfl, He.glo_ok X G (c.t.d.fact 34 (f := .glo "_law_rows") rfl)⟩
  t__law_fillings := ⟨c.t.d.def_ 35 (d := d__law_fillings) rfl, He.glo_ok X G (c.t.d.fact 35 (f := .glo "_law_fillings") rfl)⟩
  t__law_done := ⟨c.t.d.def_ 36 (d := d__law_done) rfl, He.glo_ok X G (c.t.d.fact 36 (f := .glo "_law_done") rfl)⟩
  t__law_tables := ⟨c.t.d.def_ 37 (d := d__law_tables) rfl, He.glo_ok X G (c.t.d.fact 37 (f := .glo "_law_tables") rfl)⟩
  t__law_like := ⟨c.t.d.def_ 38 (d := d__law_like) rfl, He.glo_ok X G (c.t.d.fact 38 (f := .glo "_law_like") rfl)⟩
  t__law_inside := ⟨c.t.d.def_ 39 (d := d__law_inside) rfl, He.glo_ok X G (c.t.d.fact 39 (f := .glo "_law_inside") rfl)⟩
  t__law_parts := ⟨c.t.d.def_ 40 (d := d__law_parts) rfl, He.glo_ok X G (c.t.d.fact 40 (f := .glo "_law_parts") rfl)⟩
  t__law_flat := ⟨c.t.d.def_ 41 (d := d__law_flat) rfl, He.glo_ok X G (c.t.d.fact 41 (f := .glo "_law_flat") rfl)⟩
  t__law_heard := ⟨c.t.d.def_ 42 (d := d__law_heard) rfl, He.glo_ok X G (c.t.d.fact 42 (f := .glo "_law_heard") rfl)⟩
  t__law_alone_held := ⟨c.t.d.def_ 43 (d := d__law_alone_held) rfl, He.glo_ok X G (c.t.d.fact 43 (f := .glo "_law_alone_held") rfl)⟩
  t__law_joins_held := ⟨c.t.d.def_ 44 (d := d__law_joins_held) rfl, He.glo_ok X G (c.t.d.fact 44 (f := .glo "_law_joins_held") rfl)⟩
  t__law_is_book := ⟨c.t.d.def_ 45 (d := d__law_is_book) rfl, He.glo_ok X G (c.t.d.fact 45 (f := .glo "_law_is_book") rfl)⟩
  t__law_tried := ⟨c.t.d.def_ 46 (d := d__law_tried) rfl, He.glo_ok X G (c.t.d.fact 46 (f := .glo "_law_tried") rfl)⟩
  t__law_right := ⟨c.t.d.def_ 47 (d := d__law_right) rfl, He.glo_ok X G (c.t.d.fact 47 (f := .glo "_law_right") rfl)⟩
  t_law := ⟨c.t.d.def_ 48 (d := d_law) rfl, He.glo_ok X G (c.t.d.fact 48 (f := .glo "law") rfl)⟩
  c_MOST_SHAPES := He.int_ok X G (c.t.d.fact 53 (f := .int "MOST_SHAPES" 60) rfl)
  c_MOST_PLACES := He.int_ok X G (c.t.d.fact 54 (f := .int "MOST_PLACES" 12) rfl)
  c_MOST_LISTED := He.int_ok X G (c.t.d.fact 55 (f := .int "MOST_LISTED" 400) rfl)
  c_MOST_THRICE := He.int_ok X G (c.t.d.fact 56 (f := .int "MOST_THRICE" 5000) rfl)
  n_isinstance := He.free_ok X G (c.t.d.fact 57 (f := .free "isinstance") rfl)
  n_int := He.free_ok X G (c.t.d.fact 58 (f := .free "int") rfl)
  n_bool := He.free_ok X G (c.t.d.fact 59 (f := .free "bool") rfl)
  n_tuple := He.free_ok X G (c.t.d.fact 60 (f := .free "tuple") rfl)
  n_len := He.free_ok X G (c.t.d.fact 61 (f := .free "len") rfl)
  n_range := He.free_ok X G (c.t.d.fact 62 (f := .free "range") rfl)
  n_sum := He.free_ok X G (c.t.d.fact 63 (f := .free "sum") rfl)
  n_list := He.free_ok X G (c.t.d.fact 64 (f := .free "list") rfl)
  n_enumerate := He.free_ok X G (c.t.d.fact 65 (f := .free "enumerate") rfl)
  n_max := He.free_ok X G (c.t.d.fact 66 (f := .free "max") rfl)
  n_zip := He.free_ok X G (c.t.d.fact 67 (f := .free "zip") rfl)
  n_repr := He.free_ok X G (c.t.d.fact 68 (f := .free "repr") rfl)
  n_super := He.free_ok X G (c.t.d.fact 69 (f := .free "super") rfl)
theorem cls_all (X : K.In h) (G : h.Ns mainGlobals mg) (c : He.SaysX fa fn [] tf ex w h K) (d : clsF K = clsV) : XCls R.prog K mg (He.ga K "BadBook") (He.ga K "TooGreat") ∧ HCls K mg (He.ga K "BadBook") (He.ga K "TooGreat") (He.ga K "HoldError") ∧ He.tabOf K (He.codeOf K ("_law_right", none)) ≠ He.tabOf K (He.codeOf K ("law", none)) := by
  have m := c.more
  unfold ex at m
  obtain ⟨m1, m⟩ := He.ba m
  obtain ⟨m2, m⟩ := He.ba m
  obtain ⟨m3, m4⟩ := He.ba m
  have noS : mg "super" = none := (txt_all X G c).n_super
  have e1 : PySem.BkX.fnC K (PySem.BkX.iniA K (He.ga K "BadBook")) = PySem.BkX.iniV "BadBook.__init__" (top 3) := congrArg (fun z : List PySem.BkX.FnC => z.getD 0 none) d
  have e2 : PySem.BkX.fnC K (PySem.BkX.iniA K (He.ga K "TooGreat")) = PySem.BkX.iniV "TooGreat.__init__" (top 4) := congrArg (fun z : List PySem.BkX.FnC => z.getD 1 none) d
  have noT : (R.prog.main.scope.names.lookup ("super" : Str)).isSome = false := by kernel_rfl
  refine ⟨⟨PySem.BkX.own_ok (st := top 3) (He.glo_ok X G (c.t.d.fact 51 (f := .glo "BadBook") rfl)) noS noT m1 e1 rfl rfl rfl PySem.BkX.callSo_1, PySem.BkX.own_ok (st := top 4) (He.glo_ok X G (c.t.d.fact 52 (f := .glo "TooGreat") rfl)) noS noT m2 e2 rfl rfl rfl callSo_2⟩, hrd_ok (He.glo_ok X G (c.t.d.fact 49 (f := .glo "HoldError") rfl)) m3, of_decide_eq_true m4⟩
end
/-- the law's def, at the head's heap -/
theorem walked {w : World} {K : PySem.W.Frag} {h base : Heap} {mg : Str → Option Value} (X : K.In h) (G : h.Ns mainGlobals mg) (c : He.SaysX fa fn [] tf ex w h K) (d : clsF K = clsV) (tb : ∀ p ∈ tf.map (He.cT K), LamX.TabB base mg p.1 p.2) : DokG R.prog w K mg base "law" 15 ["_law_script"] (spLaw K) := by
  obtain ⟨U, V, ne⟩ := cls_all X G c d
  exact ok_law ⟨txt_all X G c, U, V, tb _ (List.mem_map.mpr ⟨("_law_right", none), List.mem_cons_self, rfl⟩), tb _ (List.mem_map.mpr ⟨("law", none), List.mem_cons_of_mem _ List.mem_cons_self, rfl⟩), ne⟩ near_good gr8
end Bk
open PySem PySem.W PySem.Calls PyProof.Rows
theorem PySem.Challenge.cw_holdfills_k46_whole_all_books_tried_holds : PySem.Challenge.rw_holdfills_k46_whole_all_books_tried.Holds := by
  w_on; o_law
  refine HandSHeadRun.head_any (r := Bk.R) (q := view Bk.R.prog [64]) (H := Bk.hk) (ob := Bk.ob) (M := 6000) (loose := Bk.loose) (d := HandSHeadRun.topDef Bk.R.prog 64) (kwd := []) Bk.ob_eq
    (by kernel_rfl) (fun s => by kernel_rfl) Bk.run (by kernel_rfl) (by kernel_rfl) (by kernel_rfl) (by rfl) (by first | assumption | decide +kernel) (by decide +kernel) ⟨rfl, rfl, rfl, rfl, rfl, by decide +kernel⟩ ?wit ?walk
  case wit => w_witness2
  case walk =>
    refine Att.attach_callB (l := PySem.Challenge.rw_holdfills_k46_whole_all_books_tried) (n := 63) rfl (by kernel_rfl) fun w s₀ t mg mb fa o pm cd doc a us ns G Y ho hd hcd hmg hobj hints hlen hbits hg => ?_
    obtain ⟨K, KX, c, d⟩ := Y
    have hn : (HandSHeadRun.topDef Bk.R.prog 64).name = ("law" : PySem.Str) := by kernel_rfl
    rw [hn] at hmg
    have T := Bk.txt_all KX G.T.g c
    have e := hmg.symm.trans T.t_law.gl
    cases e
    refine Bk.call_tabs (k := 15) (cs := Bk.tf.map (He.cT K)) (x := "_law_script") (sp := Bk.spLaw K) KX G.T.g G.T.b G.T.builtins G.T.nolimit hg (fun p hp => ?_) (fun p hp => ?_) (fun p hp => ?_) G.T.bmain hobj hints (Nat.le_trans hlen (by decide)) ⟨rfl, by decide, by decide⟩ rfl (fun base _ _ tb => (Bk.walked KX G.T.g c d tb).ex) fun Z hZ hS => ?_
    · obtain ⟨q, hq, rfl⟩ := List.mem_map.mp hp
      exact c.empty q hq
    · obtain ⟨q, hq, rfl⟩ := List.mem_map.mp hp
      exact c.out q hq
    · obtain ⟨q, hq, rfl⟩ := List.mem_map.mp hp
      exact codeHd_of_K KX (c.hd q hq)
    · have zt : ∀ q ∈ Bk.tf, Z (He.cT K q).2 = some (.tbl #[]) := fun q hq => hZ _ (List.mem_map.mpr ⟨q, hq, rfl⟩)
      refine ⟨a, ns, rfl, hS, Nat.le_trans hlen (by decide), fun p hp => ?_, fun _ => rfl⟩
      unfold Bk.tabs at hp
      rcases List.mem_cons.mp hp with rfl | hp
      · exact ⟨#[], zt ("_law_right", none) List.mem_cons_self, trivial, fun _ _ z => by cases z⟩
      · rcases List.mem_cons.mp hp with rfl | hp
        · exact ⟨#[], zt ("law", none) (List.mem_cons_of_mem _ List.mem_cons_self), trivial, fun _ _ z => by cases z⟩
        · cases hp

