import PyProof.Rows.All
import Wide.All
import OpenK.AllK
import Wide.FinOn
import HandS.ForMost
import HandS.Walk
import HandS.Deep
import HandS.TupAny
import HandS.Style
import HandS.Wide
import HandS.Zip
import HandS.Conv
import KE.DatumMoreOrd
import KE.SortData
import KE.SortKeyHeap
import HandS.IsInst
import KE.GoesEnum
import KE.GoesMore
import KE.KDictZip
import KE.SortLaws
import HandS.More
import PyProof.SumWalk
import HandS.Small
import HandS.Lambda
import HandS.SortKw
import HandS.TupSets
import HandS.SetFor
import HandS.Strs
import HandS.EndTab
import PySem.Challenge.RW_slyscales_k06_whole_each_world_gives_one
set_option Elab.async false
set_option linter.all false
set_option maxRecDepth 100000
set_option maxHeartbeats 4000000
/-! Own layer: frozen data (ints, texts, tuples of such) over the abstract heap; comprehensions that build lists of such. -/
namespace Sly
open PySem PySem.Spec PyProof.Rows L2
open PySem.W (Datum DatumOrd Tup T3)

/-! ### frozen data -/
mutual
inductive Fz (H : Hp) : V → PyData → Prop
  | bl (b : Bool) : Fz H (.bl b) (.bool b)
  | int (i : Int) : Fz H (.int i) (.int i)
  | str (x : Str) : Fz H (.str x) (.str x)
  | tup {a : Addr} {xs : List V} {ds : List PyData} : H a = some (.tup xs) → FzA H xs ds → Fz H (.ref a) (.tuple ds)
inductive FzA (H : Hp) : List V → List PyData → Prop
  | nil : FzA H [] []
  | cons {v : V} {vs : List V} {d : PyData} {ds : List PyData} : Fz H v d → FzA H vs ds → FzA H (v :: vs) (d :: ds)
end
/-- the tuples stay -/
def TSame (H H' : Hp) : Prop := ∀ a xs, H a = some (.tup xs) → H' a = some (.tup xs)
theorem TSame.refl (H : Hp) : TSame H H := fun _ _ e => e
theorem TSame.trans {H H1 H2 : Hp} (a : TSame H H1) (b : TSame H1 H2) : TSame H H2 := fun x xs e => b x xs (a x xs e)
theorem TSame.of {H H' : Hp} (s : Same H H') : TSame H H' := fun a xs e => s a _ e
/-- an object that is no tuple is written -/
theorem TSame.put {H : Hp} {p : Addr} {o : HO} (h : ∀ xs, H p ≠ some (.tup xs)) : TSame H (upd H p o) := fun a xs e => by
  have n : a ≠ p := fun z => by
    rw [z] at e
    exact h xs e
  rw [upd_ne n]
  exact e
theorem TSame.putL {H : Hp} {p : Addr} {o : HO} {ys : List V} (h : H p = some (.lst ys)) : TSame H (upd H p o) := TSame.put fun xs e => by
  rw [h] at e
  cases e
theorem Same.new {H : Hp} {p : Addr} {o : HO} (h : H p = none) : Same H (upd H p o) := fun b x e => by
  rw [upd_ne (ne_of_none e h)]
  exact e
/-- what H does not know may change -/
theorem Same.mut {H H' : Hp} {p : Addr} {o : HO} (s : Same H H') (h : H p = none) : Same H (upd H' p o) := fun b x e => by
  rw [upd_ne (ne_of_none e h)]
  exact s b x e
mutual
theorem Fz.mono {H H' : Hp} (s : TSame H H') : ∀ (d : PyData) (v : V), Fz H v d → Fz H' v d
  | .int i, _, h => by
    cases h
    exact .int i
  | .str x, _, h => by
    cases h
    exact .str x
  | .tuple ds, _, h => by
    cases h with
    | tup ha hx => exact .tup (s _ _ ha) (FzA.mono s ds _ hx)
  | .none, _, h => by cases h
  | .bool b, _, h => by
    cases h
    exact .bl b
  | .list _, _, h => by cases h
  | .dict _, _, h => by cases h
theorem FzA.mono {H H' : Hp} (s : TSame H H') : ∀ (ds : List PyData) (vs : List V), FzA H vs ds → FzA H' vs ds
  | [], _, h => by
    cases h
    exact .nil
  | d :: ds, _, h => by
    cases h with
    | cons h1 h2 => exact .cons (Fz.mono s d _ h1) (FzA.mono s ds _ h2)
end
mutual
theorem Fz.dp {K : PySem.W.Frag} {H : Hp} : ∀ (d : PyData) (v : V), Fz H v d → Dp K H v d
  | .int i, _, h => by
    cases h
    exact .int i
  | .str x, _, h => by
    cases h
    exact .str x
  | .tuple ds, _, h => by
    cases h with
    | tup ha hx => exact .tup (SqT.of ha) (FzA.dp ds _ hx)
  | .none, _, h => by cases h
  | .bool b, _, h => by
    cases h
    exact .bl b
  | .list _, _, h => by cases h
  | .dict _, _, h => by cases h
theorem FzA.dp {K : PySem.W.Frag} {H : Hp} : ∀ (ds : List PyData) (vs : List V), FzA H vs ds → DpAll K H vs ds
  | [], _, h => by
    cases h
    exact .nil
  | d :: ds, _, h => by
    cases h with
    | cons h1 h2 => exact .cons (Fz.dp d _ h1) (FzA.dp ds _ h2)
end

/-! ### typed -/
section
variable {α β γ : Type} [DecidableEq α] [Datum α] [DecidableEq β] [Datum β] [DecidableEq γ] [Datum γ] {H H' : Hp}
/-- v holds x -/
def Ho (H : Hp) (v : V) (x : α) : Prop := Fz H v (Datum.toD x)
def HoA (H : Hp) (vs : List V) (xs : List α) : Prop := FzA H vs (xs.map Datum.toD)
/-- a list of such at p -/
def Ls (H : Hp) (p : Addr) (xs : List α) : Prop := ∃ vs, H p = some (.lst vs) ∧ HoA H vs xs
theorem Ho.mono {v : V} {x : α} (s : TSame H H') (h : Ho H v x) : Ho H' v x := Fz.mono s _ _ h
theorem HoA.mono {vs : List V} {xs : List α} (s : TSame H H') (h : HoA H vs xs) : HoA H' vs xs := FzA.mono s _ _ h
theorem Ls.mono {p : Addr} {xs : List α} (s : Same H H') (h : Ls H p xs) : Ls H' p xs := by
  obtain ⟨vs, e, h⟩ := h
  exact ⟨vs, s _ _ e, h.mono (.of s)⟩
theorem Ho.up {v : V} {x : α} (h : Ho H v x) (s : Same H H') : Ho H' v x := h.mono (.of s)
theorem HoA.up {vs : List V} {xs : List α} (h : HoA H vs xs) (s : Same H H') : HoA H' vs xs := h.mono (.of s)
theorem Ls.up {p : Addr} {xs : List α} (h : Ls H p xs) (s : Same H H') : Ls H' p xs := h.mono s
theorem Ho.dp {K : PySem.W.Frag} {v : V} {x : α} (h : Ho H v x) : Dp K H v (Datum.toD x) := Fz.dp _ _ h
theorem HoA.dp {K : PySem.W.Frag} {vs : List V} {xs : List α} (h : HoA H vs xs) : DpAll K H vs (xs.map Datum.toD) := FzA.dp _ _ h
theorem Ls.dp {K : PySem.W.Frag} {p : Addr} {xs : List α} (h : Ls H p xs) : Dp K H (.ref p) (Datum.toD xs) := by
  obtain ⟨vs, e, h⟩ := h
  exact .lst (SqL.of e) h.dp
theorem ho_int {v : V} {i : Int} (h : Ho H v i) : v = .int i := by
  cases h
  rfl
theorem ho_bl {v : V} {b : Bool} (h : Ho H v b) : v = .bl b := by
  cases h
  rfl
theorem Ho.bl (b : Bool) : Ho H (.bl b) b := Fz.bl b
theorem ho_str {v : V} {x : Str} (h : Ho H v x) : v = .str x := by
  cases h
  rfl
theorem Ho.int (i : Int) : Ho H (.int i) i := Fz.int i
theorem Ho.str (x : Str) : Ho H (.str x) x := Fz.str x
theorem ho_tup {v : V} {t : Tup α} (h : Ho H v t) : ∃ a vs, v = .ref a ∧ H a = some (.tup vs) ∧ HoA H vs t.items := by
  cases h with
  | tup ha hx => exact ⟨_, _, rfl, ha, hx⟩
theorem Ho.tup {a : Addr} {vs : List V} {xs : List α} (ha : H a = some (.tup vs)) (h : HoA H vs xs) : Ho H (.ref a) (Tup.mk xs) := Fz.tup ha h
theorem ho_pair {v : V} {p : α × β} (h : Ho H v p) : ∃ a x y, v = .ref a ∧ H a = some (.tup [x, y]) ∧ Ho H x p.1 ∧ Ho H y p.2 := by
  cases h with
  | tup ha hx =>
    cases hx with
    | cons h1 hx =>
      cases hx with
      | cons h2 hx =>
        cases hx
        exact ⟨_, _, _, rfl, ha, h1, h2⟩
theorem Ho.pair {a : Addr} {v w : V} {x : α} {y : β} (ha : H a = some (.tup [v, w])) (h1 : Ho H v x) (h2 : Ho H w y) : Ho H (.ref a) (x, y) := Fz.tup ha (.cons h1 (.cons h2 .nil))
theorem ho_t3 {v : V} {p : T3 α β γ} (h : Ho H v p) : ∃ a x y z, v = .ref a ∧ H a = some (.tup [x, y, z]) ∧ Ho H x p.a ∧ Ho H y p.b ∧ Ho H z p.c := by
  cases h with
  | tup ha hx =>
    cases hx with
    | cons h1 hx =>
      cases hx with
      | cons h2 hx =>
        cases hx with
        | cons h3 hx =>
          cases hx
          exact ⟨_, _, _, _, rfl, ha, h1, h2, h3⟩
theorem Ho.t3 {a : Addr} {u v w : V} {x : α} {y : β} {z : γ} (ha : H a = some (.tup [u, v, w])) (h1 : Ho H u x) (h2 : Ho H v y) (h3 : Ho H w z) : Ho H (.ref a) (T3.mk x y z) := Fz.tup ha (.cons h1 (.cons h2 (.cons h3 .nil)))
theorem HoA.nil : HoA H [] ([] : List α) := FzA.nil
theorem HoA.cons {v : V} {vs : List V} {x : α} {xs : List α} (h1 : Ho H v x) (h2 : HoA H vs xs) : HoA H (v :: vs) (x :: xs) := FzA.cons h1 h2
theorem hoA_cons {vs : List V} {x : α} {xs : List α} (h : HoA H vs (x :: xs)) : ∃ v ws, vs = v :: ws ∧ Ho H v x ∧ HoA H ws xs := by
  cases h with
  | cons h1 h2 => exact ⟨_, _, rfl, h1, h2⟩
theorem hoA_nil {vs : List V} (h : HoA H vs ([] : List α)) : vs = [] := by
  cases h
  rfl
theorem HoA.length : ∀ {vs : List V} {xs : List α}, HoA H vs xs → vs.length = xs.length
  | vs, [], h => by rw [hoA_nil h]; rfl
  | vs, x :: xs, h => by
    obtain ⟨v, ws, rfl, _, h2⟩ := hoA_cons h
    rw [List.length_cons, List.length_cons, HoA.length h2]
theorem HoA.append : ∀ {vs ws : List V} {xs ys : List α}, HoA H vs xs → HoA H ws ys → HoA H (vs ++ ws) (xs ++ ys)
  | vs, ws, [], ys, h, g => by
    rw [hoA_nil h]
    exact g
  | vs, ws, x :: xs, ys, h, g => by
    obtain ⟨v, us, rfl, h1, h2⟩ := hoA_cons h
    exact HoA.cons h1 (HoA.append h2 g)
theorem HoA.snoc {vs : List V} {v : V} {xs : List α} {x : α} (h : HoA H vs xs) (g : Ho H v x) : HoA H (vs ++ [v]) (xs ++ [x]) := h.append (.cons g .nil)
theorem HoA.at : ∀ {vs : List V} {xs : List α} {i : Nat} {x : α}, HoA H vs xs → xs[i]? = some x → ∃ v, vs[i]? = some v ∧ Ho H v x
  | vs, [], i, x, h, e => by simp at e
  | vs, y :: xs, 0, x, h, e => by
    obtain ⟨v, us, rfl, h1, h2⟩ := hoA_cons h
    have e' : y = x := by simpa using e
    subst e'
    exact ⟨v, rfl, h1⟩
  | vs, y :: xs, i + 1, x, h, e => by
    obtain ⟨v, us, rfl, h1, h2⟩ := hoA_cons h
    obtain ⟨w, e1, e2⟩ := HoA.at (i := i) (x := x) h2 (by simpa using e)
    exact ⟨w, by simpa using e1, e2⟩
theorem HoA.back : ∀ {vs : List V} {xs : List α} {i : Nat} {v : V}, HoA H vs xs → vs[i]? = some v → ∃ x, xs[i]? = some x ∧ Ho H v x
  | vs, [], i, v, h, e => by
    rw [hoA_nil h] at e
    simp at e
  | vs, y :: xs, 0, v, h, e => by
    obtain ⟨w, us, rfl, h1, h2⟩ := hoA_cons h
    have e' : w = v := by simpa using e
    subst e'
    exact ⟨y, rfl, h1⟩
  | vs, y :: xs, i + 1, v, h, e => by
    obtain ⟨w, us, rfl, h1, h2⟩ := hoA_cons h
    obtain ⟨x, e1, e2⟩ := HoA.back (i := i) (v := v) h2 (by simpa using e)
    exact ⟨x, by simpa using e1, e2⟩
theorem HoA.take : ∀ {vs : List V} {xs : List α} (n : Nat), HoA H vs xs → HoA H (vs.take n) (xs.take n)
  | vs, xs, 0, h => HoA.nil
  | vs, [], n + 1, h => by
    rw [hoA_nil h]
    exact HoA.nil
  | vs, x :: xs, n + 1, h => by
    obtain ⟨w, us, rfl, h1, h2⟩ := hoA_cons h
    exact HoA.cons h1 (HoA.take n h2)
theorem HoA.drop : ∀ {vs : List V} {xs : List α} (n : Nat), HoA H vs xs → HoA H (vs.drop n) (xs.drop n)
  | vs, xs, 0, h => h
  | vs, [], n + 1, h => by
    rw [hoA_nil h]
    exact HoA.nil
  | vs, x :: xs, n + 1, h => by
    obtain ⟨w, us, rfl, h1, h2⟩ := hoA_cons h
    exact HoA.drop n h2
theorem HoA.ints : ∀ {vs : List V} {xs : List Int}, HoA H vs xs → vs = xs.map V.int
  | vs, [], h => hoA_nil h
  | vs, x :: xs, h => by
    obtain ⟨w, us, rfl, h1, h2⟩ := hoA_cons h
    rw [ho_int h1, HoA.ints h2]
    rfl
theorem HoA.ofInts : ∀ (xs : List Int), HoA H (xs.map V.int) xs
  | [] => HoA.nil
  | x :: xs => HoA.cons (Ho.int x) (HoA.ofInts xs)
theorem HoA.strs : ∀ {vs : List V} {xs : List Str}, HoA H vs xs → vs = xs.map V.str
  | vs, [], h => hoA_nil h
  | vs, x :: xs, h => by
    obtain ⟨w, us, rfl, h1, h2⟩ := hoA_cons h
    rw [ho_str h1, HoA.strs h2]
    rfl
theorem HoA.bls : ∀ {vs : List V} {xs : List Bool}, HoA H vs xs → vs = xs.map V.bl
  | vs, [], h => hoA_nil h
  | vs, x :: xs, h => by
    obtain ⟨w, us, rfl, h1, h2⟩ := hoA_cons h
    rw [ho_bl h1, HoA.bls h2]
    rfl
theorem HoA.ofStrs : ∀ (xs : List Str), HoA H (xs.map V.str) xs
  | [] => HoA.nil
  | x :: xs => HoA.cons (Ho.str x) (HoA.ofStrs xs)
theorem Ls.sq {K : PySem.W.Frag} {p : Addr} {xs : List α} (h : Ls H p xs) : ∃ vs, SqL K H p vs ∧ HoA H vs xs := by
  obtain ⟨vs, e, h⟩ := h
  exact ⟨vs, SqL.of e, h⟩
/-- a new list -/
theorem Ls.new {p : Addr} {vs : List V} {xs : List α} (n : H p = none) (h : HoA H vs xs) : Ls (upd H p (.lst vs)) p xs := ⟨vs, upd_same, h.up (Same.new n)⟩
/-- a new pair -/
theorem Ho.newPair {a : Addr} {v w : V} {x : α} {y : β} (n : H a = none) (h1 : Ho H v x) (h2 : Ho H w y) : Ho (upd H a (.tup [v, w])) (.ref a) (x, y) := Ho.pair upd_same (h1.up (Same.new n)) (h2.up (Same.new n))
theorem Ho.newTup {a : Addr} {vs : List V} {xs : List α} (n : H a = none) (h : HoA H vs xs) : Ho (upd H a (.tup vs)) (.ref a) (Tup.mk xs) := Ho.tup upd_same (h.up (Same.new n))
end

/-- no test: the element is made -/
theorem yes {σ : L2.St} {H : Hp} {A : Hp → Prop} {B : Hp → Prop} (h : A H) : tYes σ H fun b H3 => if b = true then A H3 else B H3 := iteT (A := A H) (B := B H) h
/-! ### comprehensions of frozen data -/
theorem bind_some {α β : Type} (xs : List α) (g : α → Option β) : (List.range xs.length).filterMap (fun i => xs[i]?.bind g) = xs.filterMap g := by
  have key : ∀ (ys : List α) (k : Nat), (∀ i, ys[i]? = xs[k + i]?) → (List.range' k ys.length).filterMap (fun i => xs[i]?.bind g) = ys.filterMap g := by
    intro ys
    induction ys with
    | nil => intro k _; rfl
    | cons y r ih =>
      intro k hk
      have h0 : xs[k]? = some y := by
        have := hk 0
        simpa using this.symm
      have hr := ih (k + 1) fun i => by
        have := hk (i + 1)
        rw [show k + 1 + i = k + (i + 1) by omega, ← this]
        simp
      rw [List.length_cons, List.range'_succ, List.filterMap_cons, h0, List.filterMap_cons]
      simp only [Option.bind_some]
      rw [hr]
  have := key xs 0 fun i => by simp
  rw [List.range_eq_range']
  exact this
theorem fm_map {α β : Type} (xs : List α) (f : α → β) : xs.filterMap (fun x => some (f x)) = xs.map f := by
  induction xs with
  | nil => rfl
  | cons x r ih => simp
theorem fm_filter {α : Type} (xs : List α) (p : α → Bool) : xs.filterMap (fun x => if p x = true then some x else none) = xs.filter p := by
  induction xs with
  | nil => rfl
  | cons x r ih => by_cases h : p x = true <;> simp [h, ih]
section
variable {α β : Type} [DecidableEq α] [Datum α] [DecidableEq β] [Datum β]
theorem small_of {n : Nat} (h : n ≤ 1000000) : n < sizeLine := by
  rw [sizeLine_eq]
  omega
theorem small_le {n : Nat} (h : n ≤ 1000000) : n ≤ sizeLine := Nat.le_of_lt (small_of h)
/-- [elt for target in iter if ..], the elements frozen data: out tells what turn i gives -/
theorem lc_data {J : It} {n : Nat} {G : Hp → Prop} {Y : Nat → Hp → V → Hp → Prop} (w : Walk J n G Y) {g : TG} {tt : TT} {te : TE} {vs : List Nat} {σ : L2.St} {H1 : Hp} {D : Addr} {Qd : Hp → Prop} (hD : H1 D = none) (out : Nat → Option β) (hn : n ≤ 1000000)
    (hG : ∀ H, Same H1 H → G H)
    (hs : ∀ i x H H' (P : VK) (P0 : Hp → Prop), i < n → Same H1 H → Y i H x H' → (∀ y H4 d, Same H H4 → out i = some d → Ho H4 y d → P y H4) → (∀ H3, Same H H3 → out i = none → P0 H3) →
      g x (wipe σ vs) H' fun σ2 H2 => wipe σ2 vs = wipe σ vs ∧ tt σ2 H2 fun b H3 => if b = true then te σ2 H3 P else P0 H3)
    (hd : ∀ H, Same H1 H → Ls H D ((List.range n).filterMap out) → Qd H) :
    ∃ W : Nat → Nat → Hp → Prop, (∃ m, W 0 m (upd H1 D (.lst []))) ∧ ∀ i m H, W i m H →
      (J.stop i H ∧ Qd H) ∨ (J.go i H ∧ ∃ Nx : Hp → Prop, (∀ H', Nx H' → ∃ m', m' < m ∧ W (i + 1) m' H') ∧ ∀ x H', J.yld i H x H' → g x (wipe σ vs) H' fun σ2 H2 => wipe σ2 vs = wipe σ vs ∧ tt σ2 H2 fun b H3 =>
        if b = true then te σ2 H3 fun y H4 => ∃ acc, H4 D = some (.lst acc) ∧ acc.length < sizeLine ∧ Nx (upd H4 D (.lst (acc ++ [y]))) else Nx H3) := by
  refine lc_it w (fun i H => Same H1 H ∧ ∃ acc, H D = some (.lst acc) ∧ acc.length ≤ i ∧ HoA H acc ((List.range i).filterMap out)) ⟨Same.new hD, [], upd_same, Nat.le_refl _, HoA.nil⟩ (fun i H _ p => hG H p.1) ?_ ?_
  · rintro i x H H' hi ⟨s1, acc, eD, hl, ha⟩ hy
    refine hs i x H H' _ _ hi s1 hy ?_ ?_
    · intro y H4 d s4 ed hd'
      have eD4 := s4 _ _ eD
      have ts : TSame H4 (upd H4 D (.lst (acc ++ [y]))) := TSame.putL eD4
      refine ⟨acc, eD4, small_of (by omega), Same.mut (Same.trans s1 s4) hD, acc ++ [y], upd_same, ?_, ?_⟩
      · rw [List.length_append, List.length_singleton]
        omega
      · rw [List.range_succ, List.filterMap_append, show [i].filterMap out = [d] by simp [ed]]
        exact ((ha.up s4).mono ts).snoc (hd'.mono ts)
    · intro H3 s3 eo
      refine ⟨Same.trans s1 s3, acc, s3 _ _ eD, by omega, ?_⟩
      rw [List.range_succ, List.filterMap_append, show [i].filterMap out = [] by simp [eo], List.append_nil]
      exact ha.up s3
  · rintro H ⟨s1, acc, eD, _, ha⟩
    exact hd H s1 ⟨acc, eD, ha⟩
/-- over a list | a tuple of data -/
theorem lc_seq {J : It} {ws : List V} {G : Hp → Prop} (w : Walk J ws.length G (YAt ws)) {xs : List α} {g : TG} {tt : TT} {te : TE} {vs : List Nat} {σ : L2.St} {H1 : Hp} {D : Addr} {Qd : Hp → Prop} (hD : H1 D = none) (out : α → Option β) (hx : HoA H1 ws xs) (hn : xs.length ≤ 1000000)
    (hG : ∀ H, Same H1 H → G H)
    (hs : ∀ (x : α) v H (P : VK) (P0 : Hp → Prop), x ∈ xs → Same H1 H → Ho H v x → (∀ y H4 d, Same H H4 → out x = some d → Ho H4 y d → P y H4) → (∀ H3, Same H H3 → out x = none → P0 H3) →
      g v (wipe σ vs) H fun σ2 H2 => wipe σ2 vs = wipe σ vs ∧ tt σ2 H2 fun b H3 => if b = true then te σ2 H3 P else P0 H3)
    (hd : ∀ H, Same H1 H → Ls H D (xs.filterMap out) → Qd H) :
    ∃ W : Nat → Nat → Hp → Prop, (∃ m, W 0 m (upd H1 D (.lst []))) ∧ ∀ i m H, W i m H →
      (J.stop i H ∧ Qd H) ∨ (J.go i H ∧ ∃ Nx : Hp → Prop, (∀ H', Nx H' → ∃ m', m' < m ∧ W (i + 1) m' H') ∧ ∀ x H', J.yld i H x H' → g x (wipe σ vs) H' fun σ2 H2 => wipe σ2 vs = wipe σ vs ∧ tt σ2 H2 fun b H3 =>
        if b = true then te σ2 H3 fun y H4 => ∃ acc, H4 D = some (.lst acc) ∧ acc.length < sizeLine ∧ Nx (upd H4 D (.lst (acc ++ [y]))) else Nx H3) := by
  have hl := hx.length
  refine lc_data w hD (fun i => xs[i]?.bind out) (by omega) hG ?_ ?_
  · rintro i v H H' P P0 hi s1 ⟨rfl, hv⟩ hP hP0
    obtain ⟨x, ex, hxv⟩ := (hx.up s1).back hv
    refine hs x v H' P P0 (List.mem_of_getElem? ex) s1 hxv ?_ ?_
    · intro y H4 d s4 ed
      exact hP y H4 d s4 (by show xs[i]?.bind out = some d; rw [ex]; exact ed)
    · intro H3 s3 ed
      exact hP0 H3 s3 (by show xs[i]?.bind out = none; rw [ex]; exact ed)
  · intro H s1 h
    rw [hl, bind_some] at h
    exact hd H s1 h
/-- [elt for x in xs for y in ys], the second source the same at each turn -/
theorem lc2_seq {γ : Type} [DecidableEq γ] [Datum γ] {J J1 : It} {ws us : List V} {G G1 : Hp → Prop} (w : Walk J ws.length G (YAt ws)) (w1 : Walk J1 us.length G1 (YAt us)) {xs : List α} {ys : List γ} {i j : Nat} {wi1 : TI} {te : TE} {vs vs1 : List Nat} {σ : L2.St} {H1 : Hp} {D : Addr} {Qd : Hp → Prop}
    (hD : H1 D = none) (out : α → γ → β) (hx : HoA H1 ws xs) (hy : HoA H1 us ys) (hn : xs.length ≤ 1000) (hm : ys.length ≤ 1000) (hG : ∀ H, Same H1 H → G H) (hG1 : ∀ H, Same H1 H → G1 H)
    (e1 : ∀ v, wipe ((wipe σ vs).set i (some v)) vs = wipe σ vs) (e2 : ∀ v u, wipe ((wipe ((wipe σ vs).set i (some v)) vs1).set j (some u)) vs1 = wipe ((wipe σ vs).set i (some v)) vs1)
    (hi : ∀ v H (R : It → Hp → Prop), Same H1 H → R J1 H → wi1 ((wipe σ vs).set i (some v)) H R)
    (he : ∀ (x : α) (y : γ) v u H (P : VK), x ∈ xs → y ∈ ys → Same H1 H → Ho H v x → Ho H u y → (∀ z H4, Same H H4 → Ho H4 z (out x y) → P z H4) → te ((wipe ((wipe σ vs).set i (some v)) vs1).set j (some u)) H P)
    (hd : ∀ H, Same H1 H → Ls H D (xs.flatMap fun x => ys.map (out x)) → Qd H) :
    ∃ W : Nat → Nat → Hp → Prop, (∃ m, W 0 m (upd H1 D (.lst []))) ∧ ∀ n m H, W n m H →
      (J.stop n H ∧ Qd H) ∨ (J.go n H ∧ ∃ Nx : Hp → Prop, (∀ H', Nx H' → ∃ m', m' < m ∧ W (n + 1) m' H') ∧ ∀ x H', J.yld n H x H' → gName i x (wipe σ vs) H' fun σ2 H2 => wipe σ2 vs = wipe σ vs ∧ tYes σ2 H2 fun b H3 =>
        if b = true then wi1 σ2 H3 fun J1 H4 => ∃ W1 : Nat → Nat → Hp → Prop, (∃ m, W1 0 m H4) ∧ ∀ p k H, W1 p k H →
          (J1.stop p H ∧ Nx H) ∨ (J1.go p H ∧ ∃ Nx1 : Hp → Prop, (∀ H', Nx1 H' → ∃ k', k' < k ∧ W1 (p + 1) k' H') ∧ ∀ x H', J1.yld p H x H' → gName j x (wipe σ2 vs1) H' fun σ3 H5 => wipe σ3 vs1 = wipe σ2 vs1 ∧ tYes σ3 H5 fun b H6 =>
            if b = true then te σ3 H6 fun y H7 => ∃ acc, H7 D = some (.lst acc) ∧ acc.length < sizeLine ∧ Nx1 (upd H7 D (.lst (acc ++ [y]))) else Nx1 H6)
        else Nx H3) := by
  have lx : ws.length = xs.length := hx.length
  have ly : us.length = ys.length := hy.length
  refine ⟨fun n m H => m = xs.length - n ∧ n ≤ xs.length ∧ Same H1 H ∧ ∃ acc, H D = some (.lst acc) ∧ acc.length ≤ n * 1000 ∧ HoA H acc ((xs.take n).flatMap fun x => ys.map (out x)),
    ⟨_, rfl, Nat.zero_le _, Same.new hD, [], upd_same, Nat.zero_le _, HoA.nil⟩, ?_⟩
  rintro n m H ⟨rfl, hn', s1, acc, eD, hl, ha⟩
  by_cases hlt : n < xs.length
  · refine .inr ⟨w.goes n H (by omega) (hG H s1), fun H' => n + 1 ≤ xs.length ∧ Same H1 H' ∧ ∃ acc, H' D = some (.lst acc) ∧ acc.length ≤ (n + 1) * 1000 ∧ HoA H' acc ((xs.take (n + 1)).flatMap fun x => ys.map (out x)),
      fun H' q => ⟨xs.length - (n + 1), by omega, rfl, q⟩, fun v H' hyv => ?_⟩
    obtain ⟨rfl, hv⟩ := w.yields n H v H' (by omega) (hG H s1) hyv
    obtain ⟨x, ex, hxv⟩ := (hx.up s1).back hv
    have hxm : x ∈ xs := List.mem_of_getElem? ex
    refine ⟨e1 v, yes (hi v H' _ s1 ?_)⟩
    refine ⟨fun p k H => k = ys.length - p ∧ p ≤ ys.length ∧ Same H1 H ∧ Ho H v x ∧ ∃ acc, H D = some (.lst acc) ∧ acc.length ≤ n * 1000 + p ∧ HoA H acc (((xs.take n).flatMap fun x => ys.map (out x)) ++ (ys.take p).map (out x)),
      ⟨_, rfl, Nat.zero_le _, s1, hxv, acc, eD, hl, by rw [List.take_zero, List.map_nil, List.append_nil]; exact ha⟩, ?_⟩
    rintro p k H2 ⟨rfl, hp, s2, hxv2, acc2, eD2, hl2, ha2⟩
    by_cases hlt2 : p < ys.length
    · refine .inr ⟨w1.goes p H2 (by omega) (hG1 H2 s2), fun H' => p + 1 ≤ ys.length ∧ Same H1 H' ∧ Ho H' v x ∧ ∃ acc, H' D = some (.lst acc) ∧ acc.length ≤ n * 1000 + (p + 1) ∧ HoA H' acc (((xs.take n).flatMap fun x => ys.map (out x)) ++ (ys.take (p + 1)).map (out x)),
        fun H' q => ⟨ys.length - (p + 1), by omega, rfl, q⟩, fun u H' hyu => ?_⟩
      obtain ⟨rfl, hu⟩ := w1.yields p H2 u H' (by omega) (hG1 H2 s2) hyu
      obtain ⟨y, ey, hyu'⟩ := (hy.up s2).back hu
      refine ⟨e2 v u, yes (he x y v u H' _ hxm (List.mem_of_getElem? ey) s2 hxv2 hyu' ?_)⟩
      intro z H4 s4 hz
      have eD4 := s4 _ _ eD2
      have ts : TSame H4 (upd H4 D (.lst (acc2 ++ [z]))) := TSame.putL eD4
      refine ⟨acc2, eD4, small_of (by omega), hlt2, Same.mut (Same.trans s2 s4) hD, (hxv2.up s4).mono ts, acc2 ++ [z], upd_same, ?_, ?_⟩
      · rw [List.length_append, List.length_singleton]
        omega
      · rw [List.take_add_one, ey, Option.toList_some, List.map_append, ← List.append_assoc]
        exact ((ha2.up s4).mono ts).snoc (hz.mono ts)
    · have ep : p = ys.length := by omega
      subst ep
      refine .inl ⟨ly ▸ w1.stops H2 (hG1 H2 s2), hlt, s2, acc2, eD2, by omega, ?_⟩
      rw [List.take_length] at ha2
      rw [List.take_add_one, ex, Option.toList_some, List.flatMap_append, List.flatMap_singleton]
      exact ha2
  · have en : n = xs.length := by omega
    subst en
    rw [List.take_length] at ha
    exact .inl ⟨lx ▸ w.stops H (hG H s1), hd H s1 ⟨acc, eD, ha⟩⟩
end
end Sly

set_option Elab.async false
set_option linter.all false
set_option maxRecDepth 100000
set_option maxHeartbeats 4000000
/-! The data of the program as Lean types, the mirrors of its defs. -/
namespace Sly
open PySem PySem.Spec PyProof.Rows L2
open PySem.W (Datum DatumOrd Tup T3)

/-- a sort of a scale: its name, its number where it has one -/
structure Srt where
  name : Str
  arg : Option Int
  deriving DecidableEq
def Srt.d : Srt → PyData
  | ⟨s, none⟩ => .tuple [.str s]
  | ⟨s, some n⟩ => .tuple [.str s, .int n]
theorem str_eqv (a b : Str) : PyData.eqv (.str a) (.str b) = decide (a = b) := by
  simp only [PyData.eqv]
  exact PySem.W.beq_decide a b
theorem int_eqv (a b : Int) : PyData.eqv (.int a) (.int b) = decide (a = b) := by
  simp only [PyData.eqv]
  exact PySem.W.beq_decide a b
theorem Srt.eqv_d : ∀ a b : Srt, PyData.eqv a.d b.d = decide (a = b)
  | ⟨s, none⟩, ⟨t, none⟩ => by simp [Srt.d, PyData.eqv, PyData.eqvAll, PySem.W.beq_decide]
  | ⟨s, none⟩, ⟨t, some n⟩ => by simp [Srt.d, PyData.eqv, PyData.eqvAll]
  | ⟨s, some m⟩, ⟨t, none⟩ => by simp [Srt.d, PyData.eqv, PyData.eqvAll]
  | ⟨s, some m⟩, ⟨t, some n⟩ => by simp [Srt.d, PyData.eqv, PyData.eqvAll, PySem.W.beq_decide]
instance : Datum Srt where
  toD := Srt.d
  plain := fun ⟨s, a⟩ => by cases a <;> rfl
  eqv := Srt.eqv_d
  depth := 1
  depth_le := fun ⟨s, a⟩ => by cases a <;> (simp only [Srt.d, PyData.depth, PyData.depthAll]; decide)
def Srt.lt (a b : Srt) : Bool := PySem.W.dataLt a.d b.d
instance : DatumOrd Srt where
  lt := Srt.lt
  alike := fun ⟨s, a⟩ ⟨t, b⟩ => by cases a <;> cases b <;> (show PySem.W.alike (Srt.d _) (Srt.d _) = true) <;> simp [Srt.d, PySem.W.alike, PySem.W.alikeAll]
  notNone := fun ⟨s, a⟩ e => by cases a <;> cases e
  lt_eq := fun _ _ => rfl
/-- a sort as a key of a dict -/
def Srt.key : Srt → List Key
  | ⟨s, none⟩ => [.inr s]
  | ⟨s, some n⟩ => [.inr s, .inl n]
abbrev Thing := Str × Tup Int
abbrev Scale := Str × Tup Srt
abbrev Hse := Tup Thing × Tup Scale
abbrev Wld := Tup Int × Tup Srt
/-- a, b, c: the scale, the left side, the right side -/
abbrev Weigh := T3 Str (Tup Str) (Tup Str)
abbrev Told := Weigh × Int

/-! ### mirrors -/
def names {β : Type} (l : List (Str × β)) : List Str := l.map (·.1)
def sgn (n : Int) : Int := (if n > 0 then 1 else 0) - (if n < 0 then 1 else 0)
/-- all tuples with one of each part, in order -/
def allRows {α : Type} (parts : List (List α)) : List (List α) := parts.foldl (fun found part => found.flatMap fun row => part.map fun one => row ++ [one]) [[]]
def worldsOf (h : Hse) : List Wld := ((allRows (h.1.items.map (·.2.items))).map Tup.mk).flatMap fun ws => ((allRows (h.2.items.map (·.2.items))).map Tup.mk).map fun ss => (ws, ss)
def lookI (ns : List Str) (ws : List Int) (x : Str) : Int := ((ns.zip ws).lookup x).getD 0
def outw (h : Hse) (w : Wld) (g : Weigh) : Int := (g.b.items.map (lookI (names h.1.items) w.1.items)).sum - (g.c.items.map (lookI (names h.1.items) w.1.items)).sum
def sortAt (h : Hse) (w : Wld) (s : Str) : Srt := (((names h.2.items).zip w.2.items).lookup s).getD ⟨"true", none⟩
def ownOf (ahead : List Weigh) (s : Str) : List Weigh := ahead.filter fun one => decide (one.a = s)
/-- what a scale of a sort tells: n own weighings ahead, outweighed by more; e: what an echo tells -/
def ansBy (s : Srt) (n : Nat) (more e : Int) : Int :=
  if s.name = "lies" then 0 - sgn more
  else if s.name = "leans" then sgn (more + s.arg.getD 0)
  else if s.name = "sticks" then (if (if more < 0 then -more else more) ≤ s.arg.getD 0 then 0 else sgn more)
  else if s.name = "turns" then (if ((n : Int) + s.arg.getD 0) % 2 = 1 then 0 - sgn more else sgn more)
  else if s.name = "echo" then e
  else sgn more
def echoOf (h : Hse) (w : Wld) (own : List Weigh) : Int := match own.getLast? with
  | some g => sgn (outw h w g)
  | none => 0
def answer (h : Hse) (w : Wld) (ahead : List Weigh) (g : Weigh) : Int := ansBy (sortAt h w g.a) (ownOf ahead g.a).length (outw h w g) (echoOf h w (ownOf ahead g.a))
def tellsOf (h : Hse) (w : Wld) (row : List Weigh) : List Int := (List.range row.length).filterMap fun i => row[i]?.bind fun g => some (answer h w (row.take i) g)
def givingOf (h : Hse) (seen : List Told) : List Wld := (worldsOf h).filter fun w => decide (tellsOf h w (seen.map (·.1)) = seen.map (·.2))

/-! ### what is asked of the data -/
def SrtOk (s : Srt) : Prop :=
  (s.name = "true" ∧ s.arg = none) ∨ (s.name = "lies" ∧ s.arg = none) ∨ (s.name = "echo" ∧ s.arg = none) ∨ (s.name = "turns" ∧ ∃ k, s.arg = some k ∧ 0 ≤ k ∧ k ≤ 1) ∨
  (s.name = "leans" ∧ ∃ n, s.arg = some n ∧ -9 ≤ n ∧ n ≤ 9) ∨ (s.name = "sticks" ∧ ∃ n, s.arg = some n ∧ -9 ≤ n ∧ n ≤ 9)
structure HseOk (h : Hse) : Prop where
  things : h.1.items.length ≤ 4
  scales : h.2.items.length ≤ 3
  scale0 : 0 < h.2.items.length
  nt : (names h.1.items).Pairwise fun a b => a.cps.toList < b.cps.toList
  ns : (names h.2.items).Pairwise fun a b => a.cps.toList < b.cps.toList
  wts : ∀ t ∈ h.1.items, 0 < t.2.items.length ∧ t.2.items.length ≤ 4 ∧ t.2.items.Pairwise (· < ·) ∧ ∀ n ∈ t.2.items, 1 ≤ n ∧ n ≤ 9
  srt : ∀ t ∈ h.2.items, 0 < t.2.items.length ∧ t.2.items.length ≤ 4 ∧ t.2.items.Pairwise (fun a b => Srt.lt a b = true) ∧ ∀ n ∈ t.2.items, SrtOk n
structure WldOk (h : Hse) (w : Wld) : Prop where
  wl : w.1.items.length = h.1.items.length
  sl : w.2.items.length = h.2.items.length
  wb : ∀ n ∈ w.1.items, 1 ≤ n ∧ n ≤ 9
  sb : ∀ s ∈ w.2.items, SrtOk s
structure WeighOk (h : Hse) (g : Weigh) : Prop where
  scale : g.a ∈ names h.2.items
  left : g.b.items.Sublist (names h.1.items)
  right : g.c.items.Sublist (names h.1.items)
  apart : ∀ x ∈ g.b.items, x ∉ g.c.items
def SeenOk (h : Hse) (seen : List Told) : Prop := seen.length ≤ 12 ∧ ∀ p ∈ seen, WeighOk h p.1 ∧ -1 ≤ p.2 ∧ p.2 ≤ 1
def RowOk (h : Hse) (row : List Weigh) : Prop := row.length ≤ 12 ∧ ∀ g ∈ row, WeighOk h g
/-! ### elims -/
theorem ho_srt {H : Hp} {v : V} {s : Srt} (h : Ho H v s) : ∃ a vs, v = .ref a ∧ H a = some (.tup vs) ∧ vs = (s.key.map kV) := by
  obtain ⟨n, a⟩ := s
  cases a with
  | none =>
    cases h with
    | tup ha hx =>
      cases hx with
      | cons h1 hx =>
        cases hx
        cases h1
        exact ⟨_, _, rfl, ha, rfl⟩
  | some k =>
    cases h with
    | tup ha hx =>
      cases hx with
      | cons h1 hx =>
        cases hx with
        | cons h2 hx =>
          cases hx
          cases h1
          cases h2
          exact ⟨_, _, rfl, ha, rfl⟩
theorem Ho.srt {H : Hp} {a : Addr} {s : Srt} (h : H a = some (.tup (s.key.map kV))) : Ho H (.ref a) s := by
  obtain ⟨n, k⟩ := s
  cases k with
  | none => exact Fz.tup h (.cons (.str n) .nil)
  | some k => exact Fz.tup h (.cons (.str n) (.cons (.int k) .nil))
end Sly

set_option Elab.async false
set_option linter.all false
set_option maxRecDepth 100000
set_option maxHeartbeats 4000000
/-! The places of the defs in the row, their slots, their scopes. Printed by gen_text.py. -/
namespace Sly
open PySem PySem.Spec PyProof.Rows L2
def topS (i : Nat) : Stmt := PySem.Challenge.pw_slyscales_k06_whole_each_world_gives_one.main.body.getD i (.Pass ⟨0, 0, 0, 0⟩)
abbrev sIsWithin : Stmt := topS 5
abbrev nIsWithin : List Str := ["thing", "low", "high"]
theorem scIsWithin : FnScope nIsWithin ["thing", "low", "high"] (defScope sIsWithin) := ⟨rfl, rfl, rfl, by decide +kernel, rfl, by decide +kernel, by decide +kernel⟩
abbrev sRises : Stmt := topS 6
abbrev nRises : List Str := ["row", "one", "other"]
theorem scRises : FnScope nRises ["row"] (defScope sRises) := ⟨rfl, rfl, rfl, by decide +kernel, rfl, by decide +kernel, by decide +kernel⟩
abbrev sAllRows : Stmt := topS 7
abbrev nAllRows : List Str := ["parts", "found", "part", "row", "one"]
theorem scAllRows : FnScope nAllRows ["parts"] (defScope sAllRows) := ⟨rfl, rfl, rfl, by decide +kernel, rfl, by decide +kernel, by decide +kernel⟩
abbrev sWorlds : Stmt := topS 8
abbrev nWorlds : List Str := ["house", "sorts", "row", "weights", "some"]
theorem scWorlds : FnScope nWorlds ["house"] (defScope sWorlds) := ⟨rfl, rfl, rfl, by decide +kernel, rfl, by decide +kernel, by decide +kernel⟩
abbrev sAreThings : Stmt := topS 9
abbrev nAreThings : List Str := ["house", "thing", "names", "row", "one"]
theorem scAreThings : FnScope nAreThings ["house", "thing"] (defScope sAreThings) := ⟨rfl, rfl, rfl, by decide +kernel, rfl, by decide +kernel, by decide +kernel⟩
abbrev sIsWeighing : Stmt := topS 10
abbrev nIsWeighing : List Str := ["house", "thing", "row", "one"]
theorem scIsWeighing : FnScope nIsWeighing ["house", "thing"] (defScope sIsWeighing) := ⟨rfl, rfl, rfl, by decide +kernel, rfl, by decide +kernel, by decide +kernel⟩
abbrev sSign : Stmt := topS 11
abbrev nSign : List Str := ["number"]
theorem scSign : FnScope nSign ["number"] (defScope sSign) := ⟨rfl, rfl, rfl, by decide +kernel, rfl, by decide +kernel, by decide +kernel⟩
abbrev sOutweighs : Stmt := topS 12
abbrev nOutweighs : List Str := ["house", "world", "weighing", "weights", "row", "one"]
theorem scOutweighs : FnScope nOutweighs ["house", "world", "weighing"] (defScope sOutweighs) := ⟨rfl, rfl, rfl, by decide +kernel, rfl, by decide +kernel, by decide +kernel⟩
abbrev sAnswer : Stmt := topS 13
abbrev nAnswer : List Str := ["house", "world", "ahead", "weighing", "sort", "own", "more", "row", "one"]
theorem scAnswer : FnScope nAnswer ["house", "world", "ahead", "weighing"] (defScope sAnswer) := ⟨rfl, rfl, rfl, by decide +kernel, rfl, by decide +kernel, by decide +kernel⟩
abbrev sTells : Stmt := topS 14
abbrev nTells : List Str := ["house", "world", "row", "at", "weighing"]
theorem scTells : FnScope nTells ["house", "world", "row"] (defScope sTells) := ⟨rfl, rfl, rfl, by decide +kernel, rfl, by decide +kernel, by decide +kernel⟩
abbrev sIsPair : Stmt := topS 16
abbrev nIsPair : List Str := ["house", "thing"]
theorem scIsPair : FnScope nIsPair ["house", "thing"] (defScope sIsPair) := ⟨rfl, rfl, rfl, by decide +kernel, rfl, by decide +kernel, by decide +kernel⟩
abbrev sIsSeen : Stmt := topS 17
abbrev nIsSeen : List Str := ["house", "thing", "one"]
theorem scIsSeen : FnScope nIsSeen ["house", "thing"] (defScope sIsSeen) := ⟨rfl, rfl, rfl, by decide +kernel, rfl, by decide +kernel, by decide +kernel⟩
abbrev sNeedSeen : Stmt := topS 18
abbrev nNeedSeen : List Str := ["house", "seen"]
theorem scNeedSeen : FnScope nNeedSeen ["house", "seen"] (defScope sNeedSeen) := ⟨rfl, rfl, rfl, by decide +kernel, rfl, by decide +kernel, by decide +kernel⟩
abbrev sGiving : Stmt := topS 19
abbrev nGiving : List Str := ["house", "seen", "row", "answers", "one", "told", "world"]
theorem scGiving : FnScope nGiving ["house", "seen"] (defScope sGiving) := ⟨rfl, rfl, rfl, by decide +kernel, rfl, by decide +kernel, by decide +kernel⟩
abbrev sFitting : Stmt := topS 20
abbrev nFitting : List Str := ["house", "seen"]
theorem scFitting : FnScope nFitting ["house", "seen"] (defScope sFitting) := ⟨rfl, rfl, rfl, by decide +kernel, rfl, by decide +kernel, by decide +kernel⟩
abbrev sWeightsLeft : Stmt := topS 21
abbrev nWeightsLeft : List Str := ["house", "seen", "some", "found", "at", "name", "weights", "one", "world"]
theorem scWeightsLeft : FnScope nWeightsLeft ["house", "seen"] (defScope sWeightsLeft) := ⟨rfl, rfl, rfl, by decide +kernel, rfl, by decide +kernel, by decide +kernel⟩
abbrev sSortsLeft : Stmt := topS 22
abbrev nSortsLeft : List Str := ["house", "seen", "some", "found", "at", "name", "sorts", "one", "world"]
theorem scSortsLeft : FnScope nSortsLeft ["house", "seen"] (defScope sSortsLeft) := ⟨rfl, rfl, rfl, by decide +kernel, rfl, by decide +kernel, by decide +kernel⟩
abbrev sLawCellAt : Stmt := topS 24
abbrev nLawCellAt : List Str := ["script", "k"]
theorem scLawCellAt : FnScope nLawCellAt ["script", "k"] (defScope sLawCellAt) := ⟨rfl, rfl, rfl, by decide +kernel, rfl, by decide +kernel, by decide +kernel⟩
abbrev sLawDraws : Stmt := topS 25
abbrev nLawDraws : List Str := ["cell", "many", "size", "found", "rest", "stirred", "k"]
theorem scLawDraws : FnScope nLawDraws ["cell", "many", "size"] (defScope sLawDraws) := ⟨rfl, rfl, rfl, by decide +kernel, rfl, by decide +kernel, by decide +kernel⟩
abbrev sLawBag : Stmt := topS 26
abbrev nLawBag : List Str := ["script", "k"]
theorem scLawBag : FnScope nLawBag ["script", "k"] (defScope sLawBag) := ⟨rfl, rfl, rfl, by decide +kernel, rfl, by decide +kernel, by decide +kernel⟩
abbrev sLawBags : Stmt := topS 27
abbrev nLawBags : List Str := ["script", "limit", "k"]
theorem scLawBags : FnScope nLawBags ["script", "limit"] (defScope sLawBags) := ⟨rfl, rfl, rfl, by decide +kernel, rfl, by decide +kernel, by decide +kernel⟩
abbrev sLawTake : Stmt := topS 28
abbrev nLawTake : List Str := ["bag", "many"]
theorem scLawTake : FnScope nLawTake ["bag", "many"] (defScope sLawTake) := ⟨rfl, rfl, rfl, by decide +kernel, rfl, by decide +kernel, by decide +kernel⟩
abbrev sLawSorts : Stmt := topS 29
abbrev nLawSorts : List Str := ["bag", "limit", "far", "some", "found", "turn"]
theorem scLawSorts : FnScope nLawSorts ["bag", "limit", "far"] (defScope sLawSorts) := ⟨rfl, rfl, rfl, by decide +kernel, rfl, by decide +kernel, by decide +kernel⟩
abbrev sLawHouse : Stmt := topS 30
abbrev nLawHouse : List Str := ["bag", "bound", "far", "things", "scales", "many", "name", "some", "turn", "sorts"]
theorem scLawHouse : FnScope nLawHouse ["bag", "bound", "far"] (defScope sLawHouse) := ⟨rfl, rfl, rfl, by decide +kernel, rfl, by decide +kernel, by decide +kernel⟩
abbrev sLawWeighing : Stmt := topS 31
abbrev nLawWeighing : List Str := ["bag", "house", "left", "right", "name", "weights", "side"]
theorem scLawWeighing : FnScope nLawWeighing ["bag", "house"] (defScope sLawWeighing) := ⟨rfl, rfl, rfl, by decide +kernel, rfl, by decide +kernel, by decide +kernel⟩
abbrev sLawRow : Stmt := topS 32
abbrev nLawRow : List Str := ["bag", "house", "limit", "k"]
theorem scLawRow : FnScope nLawRow ["bag", "house", "limit"] (defScope sLawRow) := ⟨rfl, rfl, rfl, by decide +kernel, rfl, by decide +kernel, by decide +kernel⟩
abbrev sLawRowsOf : Stmt := topS 33
abbrev nLawRowsOf : List Str := ["parts", "found", "part", "row", "one"]
theorem scLawRowsOf : FnScope nLawRowsOf ["parts"] (defScope sLawRowsOf) := ⟨rfl, rfl, rfl, by decide +kernel, rfl, by decide +kernel, by decide +kernel⟩
abbrev sLawWorlds : Stmt := topS 34
abbrev nLawWorlds : List Str := ["house", "found", "weights", "row", "sorts"]
theorem scLawWorlds : FnScope nLawWorlds ["house"] (defScope sLawWorlds) := ⟨rfl, rfl, rfl, by decide +kernel, rfl, by decide +kernel, by decide +kernel⟩
abbrev sLawSign : Stmt := topS 35
abbrev nLawSign : List Str := ["number"]
theorem scLawSign : FnScope nLawSign ["number"] (defScope sLawSign) := ⟨rfl, rfl, rfl, by decide +kernel, rfl, by decide +kernel, by decide +kernel⟩
abbrev sLawMore : Stmt := topS 36
abbrev nLawMore : List Str := ["house", "world", "weighing", "table", "row", "one"]
theorem scLawMore : FnScope nLawMore ["house", "world", "weighing"] (defScope sLawMore) := ⟨rfl, rfl, rfl, by decide +kernel, rfl, by decide +kernel, by decide +kernel⟩
abbrev sLawTells : Stmt := topS 37
abbrev nLawTells : List Str := ["house", "world", "row", "sorts", "counts", "signs", "found", "weighing", "scale", "more", "sort", "own", "row_of"]
theorem scLawTells : FnScope nLawTells ["house", "world", "row"] (defScope sLawTells) := ⟨rfl, rfl, rfl, by decide +kernel, rfl, by decide +kernel, by decide +kernel⟩
abbrev sLawSeen : Stmt := topS 38
abbrev nLawSeen : List Str := ["bag", "house", "limit", "row", "every", "world", "found", "at", "weighing", "told"]
theorem scLawSeen : FnScope nLawSeen ["bag", "house", "limit"] (defScope sLawSeen) := ⟨rfl, rfl, rfl, by decide +kernel, rfl, by decide +kernel, by decide +kernel⟩
abbrev sLaw : Stmt := topS 39
abbrev nLaw : List Str := ["script", "bag", "house", "every", "row", "found", "answers", "lot", "seen", "before", "end", "some", "at", "name", "weights", "sorts", "parted", "world"]
theorem scLaw : FnScope nLaw ["script"] (defScope sLaw) := ⟨rfl, rfl, rfl, by decide +kernel, rfl, by decide +kernel, by decide +kernel⟩
end Sly

set_option Elab.async false
set_option linter.all false
set_option maxRecDepth 100000
set_option maxHeartbeats 4000000
/-! Walks: sign, is_within, rises. -/
namespace Sly
open PySem PySem.Spec PyProof.Rows L2
open PySem.W (Datum DatumOrd Tup T3)
open RZ (ItzT pi_zipA)

/-- the built-ins' names are the built-ins' -/
structure Blt (mg : Str → Option Value) : Prop where
  isi : mg "isinstance" = none
  int : mg "int" = none
  bool : mg "bool" = none
  str : mg "str" = none
  tuple : mg "tuple" = none
  list : mg "list" = none
  len : mg "len" = none
  all : mg "all" = none
  any : mg "any" = none
  zip : mg "zip" = none
  dict : mg "dict" = none
  sum : mg "sum" = none
  abs : mg "abs" = none
  enumerate : mg "enumerate" = none
  sorted : mg "sorted" = none
  set : mg "set" = none
  range : mg "range" = none
  max : mg "max" = none
  min : mg "min" = none
theorem b_isi : bootBuiltins "isinstance" = some (.builtin "isinstance") := by decide +kernel
theorem b_int : bootBuiltins "int" = some (.type "int") := by decide +kernel
theorem b_bool : bootBuiltins "bool" = some (.type "bool") := by decide +kernel
theorem b_str : bootBuiltins "str" = some (.type "str") := by decide +kernel
theorem b_tuple : bootBuiltins "tuple" = some (.type "tuple") := by decide +kernel
theorem b_list : bootBuiltins "list" = some (.type "list") := by decide +kernel
theorem b_len : bootBuiltins "len" = some (.builtin "len") := by decide +kernel
theorem b_all : bootBuiltins "all" = some (.builtin "all") := by decide +kernel
theorem b_any : bootBuiltins "any" = some (.builtin "any") := by decide +kernel
theorem b_sum : bootBuiltins "sum" = some (.builtin "sum") := by decide +kernel
theorem b_abs : bootBuiltins "abs" = some (.builtin "abs") := by decide +kernel
theorem b_max : bootBuiltins "max" = some (.builtin "max") := by decide +kernel
theorem b_min : bootBuiltins "min" = some (.builtin "min") := by decide +kernel
theorem b_sorted : bootBuiltins "sorted" = some (.builtin "sorted") := by decide +kernel
theorem b_set : bootBuiltins "set" = some (.type "set") := by decide +kernel
theorem b_dict : bootBuiltins "dict" = some (.type "dict") := by decide +kernel
theorem k_ii {K : PySem.W.Frag} : PySem.W.kitOne K (.type "int") (.type "int") = some true := kit_ty (by decide +kernel)
theorem k_ib {K : PySem.W.Frag} : PySem.W.kitOne K (.type "int") (.type "bool") = some false := kit_ty (by decide +kernel)
theorem k_ss {K : PySem.W.Frag} : PySem.W.kitOne K (.type "str") (.type "str") = some true := kit_ty (by decide +kernel)
theorem k_tt {K : PySem.W.Frag} : PySem.W.kitOne K (.type "tuple") (.type "tuple") = some true := kit_ty (by decide +kernel)
theorem k_ll {K : PySem.W.Frag} : PySem.W.kitOne K (.type "list") (.type "list") = some true := kit_ty (by decide +kernel)

section
variable {P : Program} {w : PySem.World} {K : PySem.W.Frag} {mg : Str → Option Value} {base : Heap}
/-! ### sign -/
def spSign : Sp := fun vs H Q _ => ∃ n : Int, vs = [.int n] ∧ Q (.int (sgn n)) H
theorem ok_sign {f : Addr} {fd : FuncData} {k : Nat} (F : Fun K "sign" "sign" sSign f fd) (B : Blt mg) : FnOk P w K mg base CX0 (k + 1) f fd ["number"] spSign := by
  refine F.ok scSign (fun vs H Q E h => ?_) (fun cdv A outer s H vs Q E hr h => ?_)
  · obtain ⟨n, rfl, _⟩ := h
    rfl
  · obtain ⟨n, rfl, q⟩ := h
    refine ⟨_, pss_one (ps_ret (pe_op op_sub (pe_callTy call_int1 (by rfl) B.int b_int (pa_cons (pe_cmpR op_gt (pv 0) pe_int (nomark _)) pa_nil)) (pe_callTy call_int1 (by rfl) B.int b_int (pa_cons (pe_cmpR op_lt (pv 0) pe_int (nomark _)) pa_nil)))), ?_⟩
    refine ⟨_, rfl, _, _, rfl, rfl, .inr ⟨_, rfl, _, rfl, _, _, rfl, rfl, .inr ⟨_, rfl, _, _, rfl, rfl, ?_⟩⟩⟩
    have e : ((if decide (0 < n) = true then (1 : Int) else 0) - (if decide (n < 0) = true then 1 else 0)) = sgn n := by
      unfold sgn
      simp only [decide_eq_true_eq, gt_iff_lt]
    show Q (V.int ((if decide (0 < n) = true then (1 : Int) else 0) - (if decide (n < 0) = true then 1 else 0))) H
    rw [e]
    exact q
/-! ### is_within -/
def spWithin : Sp := fun vs H Q _ => ∃ n lo hi : Int, vs = [.int n, .int lo, .int hi] ∧ lo ≤ n ∧ n ≤ hi ∧ Q (.bl true) H
theorem ok_within {f : Addr} {fd : FuncData} {k : Nat} (F : Fun K "is_within" "is_within" sIsWithin f fd) (B : Blt mg) : FnOk P w K mg base CX0 (k + 1) f fd ["thing", "low", "high"] spWithin := by
  refine F.ok scIsWithin (fun vs H Q E h => ?_) (fun cdv A outer s H vs Q E hr h => ?_)
  · obtain ⟨n, lo, hi, rfl, _⟩ := h
    rfl
  · obtain ⟨n, lo, hi, rfl, h1, h2, q⟩ := h
    refine ⟨_, pss_one (ps_ret (pe_and (pe_callB call_isi (by rfl) B.isi b_isi (pa_cons (pv 0) (pa_cons (pe_bltn (v := .ty "int") (by rfl) B.int b_int rfl) pa_nil)))
      (pe_and (pe_not (pe_callB call_isi (by rfl) B.isi b_isi (pa_cons (pv 0) (pa_cons (pe_bltn (v := .ty "bool") (by rfl) B.bool b_bool rfl) pa_nil)))) (pe_one (pe_chain op_le op_le (pv 1) (pv 0) (pv 2)))))), ?_⟩
    refine ⟨_, rfl, _, _, _, _, _, rfl, .ty _, .base (.int _), k_ii, true, rfl, iteT ?_⟩
    refine ⟨_, rfl, _, _, _, _, _, rfl, .ty _, .base (.int _), k_ib, false, rfl, true, rfl, iteT ?_⟩
    refine ⟨_, rfl, _, rfl, _, _, rfl, rfl, true, congrArg V.bl (decide_eq_true h1), iteT ⟨_, rfl, _, _, rfl, rfl, ?_⟩⟩
    show Q (V.bl (decide (n ≤ hi))) H
    rw [decide_eq_true h2]
    exact q
/-! ### rises: texts that rise -/
def Rise (l : List Str) : Prop := ∀ i a b, l[i]? = some a → l[i + 1]? = some b → a.cps.toList < b.cps.toList
def spRises : Sp := fun vs H Q _ => ∃ (v : V) (ss : List Str), vs = [v] ∧ Ho H v (Tup.mk ss) ∧ ss.length ≤ 100 ∧ Rise ss ∧ ∀ H', Same H H' → Q (.bl true) H'
theorem walk_zipT {a b : Addr} {xs ys : List V} {n : Nat} (hn : n = min xs.length ys.length) : Walk (ItzT K a b) n (fun H => SqT K H a xs ∧ SqT K H b ys) (YPair (fun i => xs[i]?) (fun i => ys[i]?)) := by
  subst hn
  refine ⟨fun i _ hi q => ?_, fun _ q => ⟨xs, ys, q.1, q.2, by omega⟩, fun i H v H' _ q y => ?_⟩
  · have h1 : i < xs.length := by omega
    have h2 : i < ys.length := by omega
    exact ⟨xs, ys, xs[i], ys[i], q.1, q.2, List.getElem?_eq_getElem h1, List.getElem?_eq_getElem h2⟩
  · obtain ⟨T, x, z, h1, h2, h3, h4, h5⟩ := y
    exact ⟨T, x, z, h1, h2, h3, h4 xs q.1, h5 ys q.2⟩
theorem cut1 (xs : List V) : cutV xs (some 1) none = xs.drop 1 := by
  unfold cutV
  rw [show HT.sIx xs.length 0 (some 1) = min 1 xs.length from HT.sIx_nat xs.length 0 1, HT.sIx_none]
  cases xs with
  | nil => rfl
  | cons x r =>
    rw [show min 1 (x :: r).length = 1 by rw [List.length_cons]; omega, List.drop_one, List.tail_cons]
    exact List.take_of_length_le (by rw [List.length_cons]; omega)
theorem noPart {σ : L2.St} {H : Hp} {R : Option Int → Hp → Prop} (h : R none H) : tNoPart σ H R := h
/-- t[1:], whatever t -/
theorem sl_tail {xs : List V} {a : Addr} {H : Hp} {Q : VK} (h : H a = some (.tup xs)) (q : ∀ p H', Same H H' → H' p = some (.tup (xs.drop 1)) → Q (.ref p) H') : rSlA K (.ref a) (some 1) none H Q := by
  refine ⟨a, xs, rfl, SqT.of h, fun hw => ?_, fun _ p hp => ?_⟩
  · have e : xs = [] := by
      have h1 := hw.1
      rw [show HT.sIx xs.length 0 (some 1) = min 1 xs.length from HT.sIx_nat xs.length 0 1] at h1
      cases xs with
      | nil => rfl
      | cons x r =>
        rw [List.length_cons] at h1
        omega
    subst e
    exact q a H (Same.refl H) h
  · rw [cut1]
    exact q p _ (Same.new hp) upd_same
theorem ok_rises {f : Addr} {fd : FuncData} {k : Nat} (F : Fun K "rises" "rises" sRises f fd) (B : Blt mg) : FnOk P w K mg base CX0 (k + 1) f fd ["row"] (spRises) := by
  refine F.ok scRises (fun vs H Q E h => ?_) (fun cdv A outer s H vs Q E hr h => ?_)
  · obtain ⟨v, ss, rfl, _⟩ := h
    rfl
  · obtain ⟨v, ss, rfl, hv, hl, hrise, q⟩ := h
    obtain ⟨a, us, rfl, ha, hu⟩ := ho_tup hv
    refine ⟨_, pss_one (ps_ret (pe_callB (cr_all rfl) (by rfl) B.all b_all (pa_cons (pe_lc (own := [("one", 1), ("other", 2)]) (g := gTup K 2 (gCons (gName 1) (gCons (gName 2) gNil))) (tt := tYes) rfl scRises.nd
      (pi_zipA (by rfl) B.zip (pa_cons (pv 0) (pa_cons (pe_slice sl_tupA (pv 0) (po_some pe_int) po_none) pa_nil))) (blkOk_by (N := nRises) (sc := defScope sRises) (by decide +kernel))
      (fun _ _ _ _ _ => pg_tup rfl (pgs_cons (pg_name (i := 1) scRises.nd rfl (.inl rfl)) (pgs_cons (pg_name (i := 2) scRises.nd rfl (.inl rfl)) pgs_nil))) (fun _ _ _ _ _ => pts_nil) (fun _ _ _ _ _ => pe_cmpR op_lt_str (pv 1) (pv 2) (nomark _))) pa_nil))), ?_⟩
    refine ⟨_, rfl, _, rfl, 1, rfl, ?_⟩
    refine noPart ?_
    refine sl_tail ha fun p H1 s1 hp => ?_
    refine ⟨a, p, us, us.drop 1, rfl, .inr ⟨SqT.of (s1 _ _ ha), SqT.of hp, ?_⟩⟩
    have hul : us.length = ss.length := hu.length
    intro D hD
    refine lc_data (walk_zipT (n := us.length - 1) (by rw [List.length_drop]; omega)) hD (fun _ => some true) (by omega) (fun H s2 => ⟨SqT.of (s2 _ _ (s1 _ _ ha)), SqT.of (s2 _ _ hp)⟩) ?_ ?_
    · rintro i x H2 H3 P1 P0 hi s2 ⟨T, x1, x2, rfl, nT, rfl, e1, e2⟩ hP _
      have e2' : us[i + 1]? = some x2 := by
        have e3 : (us.drop 1)[i]? = some x2 := e2
        rw [List.getElem?_drop, Nat.add_comm] at e3
        exact e3
      obtain ⟨s1', f1, g1⟩ := hu.back e1
      obtain ⟨s2', f2, g2⟩ := hu.back e2'
      have x1e := ho_str g1
      have x2e := ho_str g2
      subst x1e x2e
      refine ⟨T, _, rfl, SqT.of upd_same, rfl, _, _, rfl, _, _, rfl, rfl, rfl, yes ?_⟩
      refine ⟨_, rfl, _, rfl, _, _, rfl, rfl, ?_⟩
      refine hP _ _ true (Same.new nT) rfl ?_
      rw [decide_eq_true (hrise i _ _ f1 f2)]
      exact Ho.bl true
    · rintro H2 s2 ⟨vs2, e2, h2⟩
      refine ⟨D, _, rfl, SqL.of (by rw [e2, h2.bls]), ?_⟩
      have e3 : (List.filterMap (fun _ => some true) (List.range (us.length - 1))).all id = true := by
        rw [List.all_eq_true]
        intro b hb
        obtain ⟨_, _, e⟩ := List.mem_filterMap.mp hb
        cases e
        rfl
      rw [e3]
      exact q _ (Same.trans s1 s2)
end
end Sly

set_option Elab.async false
set_option linter.all false
set_option maxRecDepth 100000
set_option maxHeartbeats 4000000
/-! Walks: all_rows, worlds. -/
namespace Sly
open PySem PySem.Spec PyProof.Rows L2
open PySem.W (Datum DatumOrd Tup T3)
theorem allRows_snoc {α : Type} (l : List (List α)) (p : List α) : allRows (l ++ [p]) = (allRows l).flatMap fun row => p.map fun one => row ++ [one] := by
  unfold allRows
  rw [List.foldl_append]
  rfl
theorem flat_len {α β : Type} (f : α → List β) (k : Nat) : ∀ l : List α, (∀ x ∈ l, (f x).length ≤ k) → (l.flatMap f).length ≤ l.length * k
  | [], _ => by simp
  | x :: r, h => by
    have h1 := h x List.mem_cons_self
    have h2 := flat_len f k r fun y hy => h y (List.mem_cons_of_mem _ hy)
    rw [List.flatMap_cons, List.length_append, List.length_cons, Nat.succ_mul]
    omega
theorem allRows_len {α : Type} : ∀ (n : Nat) (l : List (List α)), l.length = n → (∀ p ∈ l, p.length ≤ 4) → (allRows l).length ≤ 4 ^ n
  | 0, l, hl, _ => by
    rw [List.eq_nil_of_length_eq_zero hl]
    exact Nat.le_refl 1
  | n + 1, l, hl, h => by
    obtain ⟨r, p, rfl⟩ : ∃ r p, l = r ++ [p] := by
      rcases List.eq_nil_or_concat l with e | ⟨r, p, e⟩
      · rw [e] at hl
        cases hl
      · exact ⟨r, p, by rw [e, List.concat_eq_append]⟩
    rw [List.length_append, List.length_singleton] at hl
    have ih := allRows_len n r (by omega) fun q hq => h q (List.mem_append_left _ hq)
    rw [allRows_snoc]
    have h2 := flat_len (fun row => p.map fun one => row ++ [one]) 4 (allRows r) fun row _ => by
      rw [List.length_map]
      exact h p (List.mem_append_right _ List.mem_cons_self)
    rw [Nat.pow_succ]
    exact Nat.le_trans h2 (Nat.mul_le_mul_right 4 ih)
theorem pow4_le {n m : Nat} (h : n ≤ m) : 4 ^ n ≤ 4 ^ m := Nat.pow_le_pow_right (by decide) h
section
variable {P : Program} {w : PySem.World} {K : PySem.W.Frag} {mg : Str → Option Value} {base : Heap}
/-- all rows of parts that stand in a list -/
def spRows (α : Type) [DecidableEq α] [Datum α] : Sp := fun vs H Q _ => ∃ (p : Addr) (parts : List (Tup α)), vs = [.ref p] ∧ Ls H p parts ∧ parts.length ≤ 5 ∧ (∀ t ∈ parts, t.items.length ≤ 4) ∧
  ∀ q H', Same H H' → H q = none → Ls H' q ((allRows (parts.map (·.items))).map Tup.mk) → Q (.ref q) H'
theorem ok_all_rows {α : Type} [DecidableEq α] [Datum α] {f : Addr} {fd : FuncData} {k : Nat} (F : Fun K "all_rows" "all_rows" sAllRows f fd) : FnOk P w K mg base CX0 (k + 1) f fd ["parts"] (spRows α) := by
  refine F.ok scAllRows (fun vs H Q E h => ?_) (fun cdv A outer s H vs Q E hr h => ?_)
  · obtain ⟨p, parts, rfl, _⟩ := h
    rfl
  · obtain ⟨p, parts, rfl, ⟨us, hp, hu⟩, hl, h4, q⟩ := h
    have nd := scAllRows.nd
    refine ⟨_, pss_cons (ps_set (i := 1) nd rfl (.inl rfl) (pe_lst (pa_cons (pe_tup pa_nil) pa_nil)))
      (pss_cons (ps_for PassesOwn.never rfl (pi_list (pv 0)) (pg_name (i := 2) nd rfl (.inr rfl))
        (pss_one (ps_setLc2 (i := 1) (own := [("row", 3), ("one", 4)]) (vs1 := [4]) (g := gName 3) (g1 := gName 4) (tt := tYes) (tt1 := tYes) (wi1 := iTup K (tVar 2)) (te := tOp (rCatA K) (tVar 3) (tTup (tCons (tVar 4) tNil))) rfl nd rfl rfl (sw_true rfl rfl rfl (by decide +kernel)) (pi_list (pv 1))
          (blkOk_by (N := nAllRows) (sc := defScope sAllRows) (by decide +kernel)) (by decide) (fun _ _ _ _ _ => pg_name (i := 3) nd rfl (.inl rfl)) (fun _ _ _ _ _ => pts_nil) (fun _ _ _ _ _ => pi_tup (pv 2)) (fun _ _ _ _ _ => pg_name (i := 4) nd rfl (.inl rfl)) (fun _ _ _ _ _ => pts_nil)
          (fun _ _ _ _ _ => pe_op op_catA (pv 3) (pe_tup (pa_cons (pv 4) pa_nil))))))
      (pss_one (ps_ret (pv 1)))), ?_⟩
    have hul : us.length = parts.length := hu.length
    refine ⟨small_le (by show 0 ≤ 1000000; decide), fun t ht => ⟨small_le (by show 1 ≤ 1000000; decide), fun q0 hq0 => ?_⟩⟩
    have sa : Same H (upd H t (.tup [])) := Same.new ht
    have sb := Same.trans sa (Same.new (o := HO.lst [V.ref t]) hq0)
    have qH : H q0 = none := sa.free hq0
    have pH : H p ≠ none := by rw [hp]; exact fun z => nomatch z
    refine ⟨_, rfl, p, rfl, ⟨us, SqL.of (sb _ _ hp)⟩, for_it (walk_list (K := K) (a := p) (xs := us)) (fun n σ H' => ∃ q1 y2, σ = [some (.ref p), some (.ref q1), y2, none, none] ∧ Same H H' ∧ H q1 = none ∧ Ls H' q1 ((allRows ((parts.take n).map (·.items))).map (Tup.mk (α := α))))
      ⟨q0, none, rfl, sb, qH, ⟨[.ref t], upd_same, .cons (Ho.tup (xs := []) ((Same.new hq0) _ _ upd_same) .nil) .nil⟩⟩ (fun n σ H' _ ⟨_, _, _, s1, _, _⟩ => SqL.of (s1 _ _ hp)) ?_ ?_⟩
    · rintro n x σ H1 H2 hn ⟨q1, y2, rfl, s1, n1, vs, e1, h1⟩ ⟨rfl, hx⟩
      have hx' : us[n]? = some x := hx
      obtain ⟨t1, ht1, ho1⟩ := (hu.up s1).back hx'
      obtain ⟨a1, ws, rfl, ha1, hw⟩ := ho_tup ho1
      have n5 : n < parts.length := by omega
      have ht4 : t1.items.length ≤ 4 := h4 t1 (List.mem_of_getElem? ht1)
      have hlen : (allRows ((parts.take n).map (·.items))).length ≤ 4 ^ 4 := by
        refine Nat.le_trans (allRows_len _ _ rfl fun p hp => ?_) (pow4_le ?_)
        · obtain ⟨t, ht, rfl⟩ := List.mem_map.mp hp
          exact h4 t (List.mem_of_mem_take ht)
        · rw [List.length_map, List.length_take]
          omega
      refine ⟨_, rfl, q1, rfl, ⟨vs, SqL.of e1⟩, ?_⟩
      intro D hD
      refine lc2_seq (G1 := fun H => SqT K H a1 ws) (walk_list (K := K) (a := q1) (xs := vs)) (walk_tup (K := K) (a := a1) (xs := ws)) hD (fun (r : Tup α) (o : α) => Tup.mk (r.items ++ [o])) h1 hw (by rw [List.length_map]; omega) (by omega)
        (fun H' s => SqL.of (s _ _ e1)) (fun H' s => SqT.of (s _ _ ha1)) (fun _ => rfl) (fun _ _ => rfl) ?_ ?_ ?_
      · intro v H' R s hR
        exact ⟨_, rfl, a1, rfl, ⟨ws, SqT.of (s _ _ ha1)⟩, hR⟩
      · intro r o v u H' P hr ho s hv hu' hP
        obtain ⟨a2, zs, rfl, ha2, hz⟩ := ho_tup hv
        have hzl : zs.length ≤ 4 := by
          rw [hz.length]
          obtain ⟨r0, hr0, rfl⟩ := List.mem_map.mp hr
          have : ∀ (m : Nat) (l : List (List α)), l.length = m → ∀ r ∈ allRows l, r.length = m := by
            intro m
            induction m with
            | zero =>
              intro l hl r hr
              rw [List.eq_nil_of_length_eq_zero hl] at hr
              have e : r = [] := by simpa [allRows] using hr
              rw [e]
              rfl
            | succ m ih =>
              intro l hl r hr
              obtain ⟨l0, p0, rfl⟩ : ∃ r p, l = r ++ [p] := by
                rcases List.eq_nil_or_concat l with e | ⟨r, p, e⟩
                · rw [e] at hl
                  cases hl
                · exact ⟨r, p, by rw [e, List.concat_eq_append]⟩
              rw [allRows_snoc] at hr
              obtain ⟨r1, h1, h2⟩ := List.mem_flatMap.mp hr
              obtain ⟨o1, _, rfl⟩ := List.mem_map.mp h2
              rw [List.length_append, List.length_singleton] at hl
              rw [List.length_append, List.length_singleton, ih l0 (by omega) r1 h1]
          have e := this _ _ rfl r0 hr0
          rw [List.length_map, List.length_take] at e
          show r0.length ≤ 4
          omega
        refine ⟨_, rfl, _, rfl, small_le (by show 1 ≤ 1000000; decide), fun b hb => ?_⟩
        have s2 : Same H' (upd H' b (.tup [u])) := Same.new hb
        refine ⟨a2, b, zs, [u], rfl, rfl, SqT.of (s2 _ _ ha2), SqT.of upd_same, small_le (by rw [List.length_singleton]; omega), fun e => ?_, (fun _ e => nomatch e), fun _ _ c hc => ?_⟩
        · subst e
          have er : r.items = [] := by
            have := hz.length
            exact List.eq_nil_of_length_eq_zero this.symm
          refine hP _ _ s2 ?_
          show Ho _ _ (Tup.mk (r.items ++ [o]))
          rw [er]
          exact Ho.tup upd_same (.cons (hu'.up s2) .nil)
        · have s3 := Same.trans s2 (Same.new (o := HO.tup (zs ++ [u])) hc)
          exact hP _ _ s3 (Ho.tup upd_same ((hz.up s3).snoc (hu'.up s3)))
      · intro H' s h
        refine ⟨D, _, rfl, Same.trans s1 s, s1.free hD, ?_⟩
        have e : (allRows ((parts.take (n + 1)).map (·.items))).map (Tup.mk (α := α)) = ((allRows ((parts.take n).map (·.items))).map Tup.mk).flatMap fun x => t1.items.map fun o => Tup.mk (x.items ++ [o]) := by
          rw [List.take_add_one, ht1, Option.toList_some, List.map_append, List.map_singleton, allRows_snoc, List.flatMap_map, List.map_flatMap]
          congr 1
          funext row
          rw [List.map_map]
          rfl
        rw [e]
        exact h
    · rintro σ H1 ⟨q1, y2, rfl, s1, n1, h1⟩
      rw [show us.length = parts.length from hul, List.take_length] at h1
      exact ⟨_, rfl, q q1 H1 s1 n1 h1⟩
end
end Sly

set_option Elab.async false
set_option linter.all false
set_option maxRecDepth 100000
set_option maxHeartbeats 4000000
/-! Walks: worlds. -/
namespace Sly
open PySem PySem.Spec PyProof.Rows L2
open PySem.W (Datum DatumOrd Tup T3)
theorem int_ne_zero : True := trivial
section
variable {P : Program} {w : PySem.World} {K : PySem.W.Frag} {mg : Str → Option Value} {base : Heap}
/-- t[0], t[1] of a pair -/
theorem ix0 {a : Addr} {x y : V} {H : Hp} {Q : VK} (h : H a = some (.tup [x, y])) (q : Q x H) : rIxT K (.ref a) (.int 0) H Q := ⟨a, [x, y], 0, x, rfl, rfl, SqT.of h, atI_nat (j := 0) rfl, q⟩
theorem ix1 {a : Addr} {x y : V} {H : Hp} {Q : VK} (h : H a = some (.tup [x, y])) (q : Q y H) : rIxT K (.ref a) (.int 1) H Q := ⟨a, [x, y], 1, y, rfl, rfl, SqT.of h, atI_nat (j := 1) rfl, q⟩
/-- t[0], t[1], t[2] of three -/
theorem ix30 {a : Addr} {x y z : V} {H : Hp} {Q : VK} (h : H a = some (.tup [x, y, z])) (q : Q x H) : rIxT K (.ref a) (.int 0) H Q := ⟨a, [x, y, z], 0, x, rfl, rfl, SqT.of h, atI_nat (j := 0) rfl, q⟩
theorem ix31 {a : Addr} {x y z : V} {H : Hp} {Q : VK} (h : H a = some (.tup [x, y, z])) (q : Q y H) : rIxT K (.ref a) (.int 1) H Q := ⟨a, [x, y, z], 1, y, rfl, rfl, SqT.of h, atI_nat (j := 1) rfl, q⟩
theorem ix32 {a : Addr} {x y z : V} {H : Hp} {Q : VK} (h : H a = some (.tup [x, y, z])) (q : Q z H) : rIxT K (.ref a) (.int 2) H Q := ⟨a, [x, y, z], 2, z, rfl, rfl, SqT.of h, atI_nat (j := 2) rfl, q⟩
def spWorlds : Sp := fun vs H Q _ => ∃ (v : V) (h : Hse), vs = [v] ∧ Ho H v h ∧ HseOk h ∧ ∀ q H', Same H H' → H q = none → Ls H' q (worldsOf h) → Q (.ref q) H'
/-- the parts' row[1], row at slot i -/
theorem lc_row1 {α β : Type} [DecidableEq α] [Datum α] [DecidableEq β] [Datum β] {a : Addr} {us : List V} {xs : List (α × β)} {i : Nat} {σ : L2.St} {H1 : Hp} {D : Addr} {Qd : Hp → Prop} (hD : H1 D = none) (ha : H1 a = some (.tup us)) (hx : HoA H1 us xs) (hn : xs.length ≤ 1000)
    (ei : ∀ v, ((wipe σ [i]).set i (some v))[i]? = some (some v)) (e1 : ∀ v, wipe ((wipe σ [i]).set i (some v)) [i] = wipe σ [i]) (hd : ∀ H, Same H1 H → Ls H D (xs.map (·.2)) → Qd H) :
    ∃ W : Nat → Nat → Hp → Prop, (∃ m, W 0 m (upd H1 D (.lst []))) ∧ ∀ n m H, W n m H →
      ((Itt K a).stop n H ∧ Qd H) ∨ ((Itt K a).go n H ∧ ∃ Nx : Hp → Prop, (∀ H', Nx H' → ∃ m', m' < m ∧ W (n + 1) m' H') ∧ ∀ x H', (Itt K a).yld n H x H' → gName i x (wipe σ [i]) H' fun σ2 H2 => wipe σ2 [i] = wipe σ [i] ∧ tYes σ2 H2 fun b H3 =>
        if b = true then tOp (rIxT K) (tVar i) (tC (.int 1)) σ2 H3 fun y H4 => ∃ acc, H4 D = some (.lst acc) ∧ acc.length < sizeLine ∧ Nx (upd H4 D (.lst (acc ++ [y]))) else Nx H3) := by
  refine lc_seq (walk_tup (K := K) (a := a) (xs := us)) hD (fun p => some p.2) hx (by omega) (fun H s => SqT.of (s _ _ ha)) ?_ ?_
  · intro x v H P P0 hm s hv hP _
    obtain ⟨b, y, z, rfl, hb, h1, h2⟩ := ho_pair hv
    refine ⟨e1 _, yes ⟨_, ei _, ix1 hb ?_⟩⟩
    exact hP _ _ _ (Same.refl H) rfl h2
  · intro H s h
    rw [fm_map] at h
    exact hd H s h
/-- .. row[0] -/
theorem lc_row0 {α β : Type} [DecidableEq α] [Datum α] [DecidableEq β] [Datum β] {a : Addr} {us : List V} {xs : List (α × β)} {i : Nat} {σ : L2.St} {H1 : Hp} {D : Addr} {Qd : Hp → Prop} (hD : H1 D = none) (ha : H1 a = some (.tup us)) (hx : HoA H1 us xs) (hn : xs.length ≤ 1000)
    (ei : ∀ v, ((wipe σ [i]).set i (some v))[i]? = some (some v)) (e1 : ∀ v, wipe ((wipe σ [i]).set i (some v)) [i] = wipe σ [i]) (hd : ∀ H, Same H1 H → Ls H D (xs.map (·.1)) → Qd H) :
    ∃ W : Nat → Nat → Hp → Prop, (∃ m, W 0 m (upd H1 D (.lst []))) ∧ ∀ n m H, W n m H →
      ((Itt K a).stop n H ∧ Qd H) ∨ ((Itt K a).go n H ∧ ∃ Nx : Hp → Prop, (∀ H', Nx H' → ∃ m', m' < m ∧ W (n + 1) m' H') ∧ ∀ x H', (Itt K a).yld n H x H' → gName i x (wipe σ [i]) H' fun σ2 H2 => wipe σ2 [i] = wipe σ [i] ∧ tYes σ2 H2 fun b H3 =>
        if b = true then tOp (rIxT K) (tVar i) (tC (.int 0)) σ2 H3 fun y H4 => ∃ acc, H4 D = some (.lst acc) ∧ acc.length < sizeLine ∧ Nx (upd H4 D (.lst (acc ++ [y]))) else Nx H3) := by
  refine lc_seq (walk_tup (K := K) (a := a) (xs := us)) hD (fun p => some p.1) hx (by omega) (fun H s => SqT.of (s _ _ ha)) ?_ ?_
  · intro x v H P P0 hm s hv hP _
    obtain ⟨b, y, z, rfl, hb, h1, h2⟩ := ho_pair hv
    refine ⟨e1 _, yes ⟨_, ei _, ix0 hb ?_⟩⟩
    exact hP _ _ _ (Same.refl H) rfl h1
  · intro H s h
    rw [fm_map] at h
    exact hd H s h
theorem ok_worlds {f fA : Addr} {fd fdA : FuncData} (F : Fun K "worlds" "worlds" sWorlds f fd) (GA : ∀ (α : Type) [DecidableEq α] [Datum α], FnOk P w K mg base CX0 1 fA fdA ["parts"] (spRows α)) (kA : PySem.W.keepIn K (.ref fA) = true) (bA : Binds K fdA ["parts"] []) (gA : mg "all_rows" = some (.ref fA)) :
    FnOk P w K mg base CX0 2 f fd ["house"] spWorlds := by
  refine F.ok scWorlds (fun vs H Q E h => ?_) (fun cdv A outer s H vs Q E hr h => ?_)
  · obtain ⟨v, h, rfl, _⟩ := h
    rfl
  · obtain ⟨v, h, rfl, hv, hk, q⟩ := h
    have nd := scWorlds.nd
    obtain ⟨a, x, y, rfl, ha, hx, hy⟩ := ho_pair hv
    obtain ⟨ax, xs, rfl, hax, hxs⟩ := ho_tup hx
    obtain ⟨ay, ys, rfl, hay, hys⟩ := ho_tup hy
    refine ⟨_, pss_cons (ps_set (i := 1) nd rfl (.inr rfl) (pe_call (GA Srt) hr (by rfl) gA kA bA .nil pass0 (pa_cons (pe_lc (own := [("row", 2)]) (g := gName 2) (tt := tYes) (te := tOp (rIxT K) (tVar 2) (tC (.int 1))) rfl nd (pi_tup (pe_ix ix_tup (pv 0) pe_int (fun _ _ => rfl)))
        (blkOk_by (N := nWorlds) (sc := defScope sWorlds) (by decide +kernel)) (fun _ _ _ _ _ => pg_name (i := 2) nd rfl (.inl rfl)) (fun _ _ _ _ _ => pts_nil) (fun _ _ _ _ _ => pe_ix ix_tup (pv 2) pe_int (fun _ _ => rfl))) pa_nil)))
      (pss_one (ps_ret (pe_lc2 (own := [("weights", 3), ("some", 4)]) (vs1 := [4]) (g := gName 3) (g1 := gName 4) (tt := tYes) (tt1 := tYes) (wi1 := iList K (tVar 1)) (te := tTup (tCons (tVar 3) (tCons (tVar 4) tNil))) rfl nd
        (pi_list (pe_call (GA Int) hr (by rfl) gA kA bA .nil pass0 (pa_cons (pe_lc (own := [("row", 2)]) (g := gName 2) (tt := tYes) (te := tOp (rIxT K) (tVar 2) (tC (.int 1))) rfl nd (pi_tup (pe_ix ix_tup (pv 0) pe_int (fun _ _ => rfl)))
        (blkOk_by (N := nWorlds) (sc := defScope sWorlds) (by decide +kernel)) (fun _ _ _ _ _ => pg_name (i := 2) nd rfl (.inl rfl)) (fun _ _ _ _ _ => pts_nil) (fun _ _ _ _ _ => pe_ix ix_tup (pv 2) pe_int (fun _ _ => rfl))) pa_nil)))
        (blkOk_by (N := nWorlds) (sc := defScope sWorlds) (by decide +kernel)) (by decide) (fun _ _ _ _ _ => pg_name (i := 3) nd rfl (.inl rfl)) (fun _ _ _ _ _ => pts_nil) (fun _ _ _ _ _ => pi_list (pv 1)) (fun _ _ _ _ _ => pg_name (i := 4) nd rfl (.inl rfl)) (fun _ _ _ _ _ => pts_nil)
        (fun _ _ _ _ _ => pe_tup (pa_cons (pv 3) (pa_cons (pv 4) pa_nil)))))), ?_⟩
    refine ⟨_, rfl, a, _, 1, _, rfl, rfl, SqT.of ha, atI_nat (j := 1) rfl, ay, rfl, ⟨ys, SqT.of hay⟩, fun D hD => lc_row1 hD hay hys (by have := hk.scales; omega) (fun _ => rfl) (fun _ => rfl) fun H1 s1 h1 => ?_⟩
    refine ⟨D, _, rfl, h1, by rw [List.length_map]; have := hk.scales; omega, fun t ht => ?_, fun q1 H2 s2 n2 h2 => ?_⟩
    · obtain ⟨t0, ht0, rfl⟩ := List.mem_map.mp ht
      exact (hk.srt t0 ht0).2.1
    have s12 := Same.trans s1 s2
    refine ⟨_, rfl, a, _, 0, _, rfl, rfl, SqT.of (s12 _ _ ha), atI_nat (j := 0) rfl, ax, rfl, ⟨xs, SqT.of (s12 _ _ hax)⟩, fun D2 hD2 => lc_row1 hD2 (s12 _ _ hax) (hxs.up s12) (by have := hk.things; omega) (fun _ => rfl) (fun _ => rfl) fun H3 s3 h3 => ?_⟩
    refine ⟨D2, _, rfl, h3, by rw [List.length_map]; have := hk.things; omega, fun t ht => ?_, fun q2 H4 s4 n4 h4 => ?_⟩
    · obtain ⟨t0, ht0, rfl⟩ := List.mem_map.mp ht
      exact (hk.wts t0 ht0).2.1
    have s34 := Same.trans s3 s4
    obtain ⟨v1, e1, g1⟩ := h2.up s34
    obtain ⟨v2, e2, g2⟩ := h4
    have s14 := Same.trans s12 s34
    refine ⟨q2, rfl, ⟨v2, SqL.of e2⟩, fun D3 hD3 => ?_⟩
    refine lc2_seq (walk_list (K := K) (a := q2) (xs := v2)) (walk_list (K := K) (a := q1) (xs := v1)) hD3 (fun (ws : Tup Int) (ss : Tup Srt) => (ws, ss)) g2 g1 ?_ ?_ (fun H' s => SqL.of (s _ _ e2)) (fun H' s => SqL.of (s _ _ e1)) (fun _ => rfl) (fun _ _ => rfl) ?_ ?_ ?_
    · rw [List.length_map, List.map_map]
      refine Nat.le_trans (allRows_len _ _ rfl fun p hp => ?_) (Nat.le_trans (pow4_le (m := 4) ?_) (by decide))
      · obtain ⟨t0, ht0, rfl⟩ := List.mem_map.mp hp
        exact (hk.wts t0 ht0).2.1
      · rw [List.length_map]
        exact hk.things
    · rw [List.length_map, List.map_map]
      refine Nat.le_trans (allRows_len _ _ rfl fun p hp => ?_) (Nat.le_trans (pow4_le (m := 4) ?_) (by decide))
      · obtain ⟨t0, ht0, rfl⟩ := List.mem_map.mp hp
        exact (hk.srt t0 ht0).2.1
      · rw [List.length_map]
        have := hk.scales
        omega
    · intro v H' R s hR
      exact ⟨_, rfl, q1, rfl, ⟨v1, SqL.of (s _ _ e1)⟩, hR⟩
    · intro ws ss v u H' P _ _ s hv hu hP
      refine ⟨_, rfl, _, rfl, small_le (by show 2 ≤ 1000000; decide), fun b hb => ?_⟩
      exact hP _ _ (Same.new hb) (Ho.newPair hb hv hu)
    · intro H5 s5 h5
      refine q D3 H5 (Same.trans s14 s5) (s14.free hD3) ?_
      unfold worldsOf
      rw [List.map_map, List.map_map] at h5
      exact h5
end
end Sly

set_option Elab.async false
set_option linter.all false
set_option maxRecDepth 100000
set_option maxHeartbeats 4000000
/-! Walks: are_things, is_weighing. -/
namespace Sly
open PySem PySem.Spec PyProof.Rows L2
open PySem.W (Datum DatumOrd Tup T3)
theorem flat_strs (l : List Str) : (l.map V.str).all flatV = true := by
  rw [List.all_map, List.all_eq_true]
  intro x _
  rfl
theorem inV_str (x : Str) : ∀ l : List Str, inV (.str x) (l.map V.str) = decide (x ∈ l)
  | [] => rfl
  | y :: r => by
    have ih := inV_str x r
    show (eqV (.str y) (.str x) || inV (.str x) (r.map V.str)) = _
    have e : eqV (.str y) (.str x) = decide (x = y) := by
      show decide (y = x) = decide (x = y)
      exact decide_eq_decide.mpr eq_comm
    rw [ih, e, ← Bool.decide_or]
    exact decide_eq_decide.mpr List.mem_cons.symm
section
variable {P : Program} {w : PySem.World} {K : PySem.W.Frag} {mg : Str → Option Value} {base : Heap}
def spThings : Sp := fun vs H Q _ => ∃ (v t : V) (h : Hse) (l : List Str), vs = [v, t] ∧ Ho H v h ∧ Ho H t (Tup.mk l) ∧ h.1.items.length ≤ 1000 ∧ l.length ≤ 100 ∧ (∀ x ∈ l, x ∈ names h.1.items) ∧ Rise l ∧ ∀ H', Same H H' → Q (.bl true) H'
theorem ok_things {f fR : Addr} {fd fdR : FuncData} (F : Fun K "are_things" "are_things" sAreThings f fd) (B : Blt mg) (GR : FnOk P w K mg base CX0 1 fR fdR ["row"] spRises) (kR : PySem.W.keepIn K (.ref fR) = true) (bR : Binds K fdR ["row"] []) (gR : mg "rises" = some (.ref fR)) :
    FnOk P w K mg base CX0 2 f fd ["house", "thing"] spThings := by
  refine F.ok scAreThings (fun vs H Q E h => ?_) (fun cdv A outer s H vs Q E hr h => ?_)
  · obtain ⟨v, t, h, l, rfl, _⟩ := h
    rfl
  · obtain ⟨v, t, h, l, rfl, hv, ht, hn, hl, hm, hrise, q⟩ := h
    have nd := scAreThings.nd
    obtain ⟨a, x, y, rfl, ha, hx, hy⟩ := ho_pair hv
    obtain ⟨ax, xs, rfl, hax, hxs⟩ := ho_tup hx
    obtain ⟨at_, ts, rfl, hat, hts⟩ := ho_tup ht
    refine ⟨_, pss_cons (ps_set (i := 2) nd rfl (.inr rfl) (pe_lc (own := [("row", 3)]) (g := gName 3) (tt := tYes) (te := tOp (rIxT K) (tVar 3) (tC (.int 0))) rfl nd (pi_tup (pe_ix ix_tup (pv 0) pe_int (fun _ _ => rfl)))
        (blkOk_by (N := nAreThings) (sc := defScope sAreThings) (by decide +kernel)) (fun _ _ _ _ _ => pg_name (i := 3) nd rfl (.inl rfl)) (fun _ _ _ _ _ => pts_nil) (fun _ _ _ _ _ => pe_ix ix_tup (pv 3) pe_int (fun _ _ => rfl))))
      (pss_cons (ps_if (PW.pt (pw_or (pt_not (pt_val (pe_callB call_isi (by rfl) B.isi b_isi (pa_cons (pv 1) (pa_cons (pe_bltn (v := .ty "tuple") (by rfl) B.tuple b_tuple rfl) pa_nil)))))
        (pw_or1 (pt_not (pt_val (pe_callB (cr_all rfl) (by rfl) B.all b_all (pa_cons (pe_lc (own := [("one", 4)]) (g := gName 4) (tt := tYes) (te := tAndV (tCB (rIsi K) (tCons (tVar 4) (tCons (tC (.ty "str")) tNil))) (tOp (rIn K false) (tVar 4) (tVar 2))) rfl nd (pi_tup (pv 1))
          (blkOk_by (N := nAreThings) (sc := defScope sAreThings) (by decide +kernel)) (fun _ _ _ _ _ => pg_name (i := 4) nd rfl (.inl rfl)) (fun _ _ _ _ _ => pts_nil)
          (fun _ _ _ _ _ => pe_and (pe_callB call_isi (by rfl) B.isi b_isi (pa_cons (pv 4) (pa_cons (pe_bltn (v := .ty "str") (by rfl) B.str b_str rfl) pa_nil))) (pe_one (pe_cmpR op_in_seq (pv 4) (pv 2) rfl)))) pa_nil)))))))
        (pss_one (ps_ret pe_bl)) pss_nil)
      (pss_one (ps_ret (pe_call GR hr (by rfl) gR kR bR .nil pass0 (pa_cons (pv 1) pa_nil))))), ?_⟩
    refine ⟨_, rfl, a, _, 0, _, rfl, rfl, SqT.of ha, atI_nat (j := 0) rfl, ax, rfl, ⟨xs, SqT.of hax⟩, fun D hD => lc_row0 hD hax hxs hn (fun _ => rfl) (fun _ => rfl) fun H1 s1 h1 => ?_⟩
    obtain ⟨ns, e1, g1⟩ := h1
    have g1' := g1.strs
    subst g1'
    refine ⟨_, rfl, _, _, _, _, true, rfl, .ty _, .base (.tup (s1 _ _ hat)), k_tt, true, rfl, iteF ?_⟩
    refine ⟨_, rfl, at_, rfl, ⟨ts, SqT.of (s1 _ _ hat)⟩, fun D2 hD2 => ?_⟩
    refine lc_seq (walk_tup (K := K) (a := at_) (xs := ts)) hD2 (fun _ => some true) (hts.up s1) (by show l.length ≤ 1000000; omega) (fun H s => SqT.of (s _ _ (s1 _ _ hat))) ?_ ?_
    · intro z v H2 P1 P0 hz s2 hv2 hP _
      have hz' : z ∈ l := hz
      have ez := ho_str hv2
      subst ez
      refine ⟨rfl, yes ⟨_, rfl, _, _, _, _, true, rfl, .ty _, .base (.str _), k_ss, true, rfl, iteT ?_⟩⟩
      refine ⟨_, rfl, _, rfl, D, _, rfl, .inl (SqL.of (s2 _ _ e1)), rfl, flat_strs _, ?_⟩
      refine hP _ _ true (Same.refl _) rfl ?_
      show Ho _ (V.bl (inV _ _)) true
      rw [inV_str, decide_eq_true (show z ∈ List.map (fun x => x.1) h.1.items from hm z hz')]
      exact Ho.bl true
    · rintro H3 s3 ⟨bs, e3, g3⟩
      refine ⟨D2, _, rfl, SqL.of (by rw [e3, g3.bls]), ?_⟩
      have e4 : (List.filterMap (fun _ => some true) l).all id = true := by
        rw [List.all_eq_true]
        intro b hb
        obtain ⟨_, _, e⟩ := List.mem_filterMap.mp hb
        cases e
        rfl
      refine ⟨true, congrArg V.bl e4, iteF ?_⟩
      exact ⟨_, rfl, _, l, rfl, Ho.tup (s3 _ _ (s1 _ _ hat)) ((hts.up s1).up s3), hl, hrise, fun H4 s4 => q H4 (Same.trans (Same.trans s1 s3) s4)⟩
end
end Sly

set_option Elab.async false
set_option linter.all false
set_option maxRecDepth 100000
set_option maxHeartbeats 4000000
/-! Walk: is_weighing. -/
namespace Sly
open PySem PySem.Spec PyProof.Rows L2
open PySem.W (Datum DatumOrd Tup T3)
theorem iteF' {c : Bool} {A B : Prop} (e : c = false) (h : B) : if c = true then A else B := by
  rw [e]
  exact iteF h
theorem iteT' {c : Bool} {A B : Prop} (e : c = true) (h : A) : if c = true then A else B := by
  rw [e]
  exact iteT h
theorem rise_of {l ns : List Str} (s : l.Sublist ns) (h : ns.Pairwise fun a b => a.cps.toList < b.cps.toList) : Rise l := by
  intro i a b ha hb
  have p := h.sublist s
  have h1 := (List.getElem?_eq_some_iff.mp ha)
  have h2 := (List.getElem?_eq_some_iff.mp hb)
  obtain ⟨i1, e1⟩ := h1
  obtain ⟨i2, e2⟩ := h2
  have q := List.pairwise_iff_getElem.mp p i (i + 1) i1 i2 (Nat.lt_succ_self i)
  rw [e1, e2] at q
  exact q
theorem all_true {β : Type} (l : List β) : (List.filterMap (fun _ => some true) l).all id = true := by
  rw [List.all_eq_true]
  intro b hb
  obtain ⟨_, _, e⟩ := List.mem_filterMap.mp hb
  cases e
  rfl
section
variable {P : Program} {w : PySem.World} {K : PySem.W.Frag} {mg : Str → Option Value} {base : Heap}
def spWeighing : Sp := fun vs H Q _ => ∃ (v t : V) (h : Hse) (g : Weigh), vs = [v, t] ∧ Ho H v h ∧ Ho H t g ∧ HseOk h ∧ WeighOk h g ∧ ∀ H', Same H H' → Q (.bl true) H'
theorem ok_weighing {f fR : Addr} {fd fdR : FuncData} (F : Fun K "is_weighing" "is_weighing" sIsWeighing f fd) (B : Blt mg) (GR : FnOk P w K mg base CX0 2 fR fdR ["house", "thing"] spThings) (kR : PySem.W.keepIn K (.ref fR) = true) (bR : Binds K fdR ["house", "thing"] []) (gR : mg "are_things" = some (.ref fR)) :
    FnOk P w K mg base CX0 3 f fd ["house", "thing"] spWeighing := by
  refine F.ok scIsWeighing (fun vs H Q E h => ?_) (fun cdv A outer s H vs Q E hr h => ?_)
  · obtain ⟨v, t, h, l, rfl, _⟩ := h
    rfl
  · obtain ⟨v, t, h, g, rfl, hv, ht, hk, hg, q⟩ := h
    have nd := scIsWeighing.nd
    obtain ⟨a, x, y, rfl, ha, hx, hy⟩ := ho_pair hv
    obtain ⟨ay, ys, rfl, hay, hys⟩ := ho_tup hy
    obtain ⟨at_, u0, u1, u2, rfl, hat, h0, h1, h2⟩ := ho_t3 ht
    have e0 := ho_str h0
    subst e0
    refine ⟨_, pss_cons (ps_if (PW.pt (pw_or (pt_not (pt_val (pe_callB call_isi (by rfl) B.isi b_isi (pa_cons (pv 1) (pa_cons (pe_bltn (v := .ty "tuple") (by rfl) B.tuple b_tuple rfl) pa_nil)))))
        (pw_or (pt_cmpR op_ne (pe_callB call_len_seq (by rfl) B.len b_len (pa_cons (pv 1) pa_nil)) pe_int (nomark _))
        (pw_or1 (pt_not (pt_val (pe_callB call_isi (by rfl) B.isi b_isi (pa_cons (pe_ix ix_tup (pv 1) pe_int (fun _ _ => rfl)) (pa_cons (pe_bltn (v := .ty "str") (by rfl) B.str b_str rfl) pa_nil)))))))))
        (pss_one (ps_ret pe_bl)) pss_nil)
      (pss_cons (ps_if (pt_cmpR op_notIn_seq (pe_ix ix_tup (pv 1) pe_int (fun _ _ => rfl)) (pe_lc (own := [("row", 2)]) (g := gName 2) (tt := tYes) (te := tOp (rIxT K) (tVar 2) (tC (.int 0))) rfl nd (pi_tup (pe_ix ix_tup (pv 0) pe_int (fun _ _ => rfl)))
          (blkOk_by (N := nIsWeighing) (sc := defScope sIsWeighing) (by decide +kernel)) (fun _ _ _ _ _ => pg_name (i := 2) nd rfl (.inl rfl)) (fun _ _ _ _ _ => pts_nil) (fun _ _ _ _ _ => pe_ix ix_tup (pv 2) pe_int (fun _ _ => rfl))) rfl)
        (pss_one (ps_ret pe_bl)) pss_nil)
      (pss_cons (ps_if (PW.pt (pw_or (pt_not (pt_val (pe_call GR hr (by rfl) gR kR bR .nil pass0 (pa_cons (pv 0) (pa_cons (pe_ix ix_tup (pv 1) pe_int (fun _ _ => rfl)) pa_nil)))))
          (pw_or1 (pt_not (pt_val (pe_call GR hr (by rfl) gR kR bR .nil pass0 (pa_cons (pv 0) (pa_cons (pe_ix ix_tup (pv 1) pe_int (fun _ _ => rfl)) pa_nil))))))))
        (pss_one (ps_ret pe_bl)) pss_nil)
      (pss_one (ps_ret (pe_callB (cr_all rfl) (by rfl) B.all b_all (pa_cons (pe_lc (own := [("one", 3)]) (g := gName 3) (tt := tYes) (te := tOp (rIn K true) (tVar 3) (tOp (rIxT K) (tVar 1) (tC (.int 2)))) rfl nd (pi_tup (pe_ix ix_tup (pv 1) pe_int (fun _ _ => rfl)))
          (blkOk_by (N := nIsWeighing) (sc := defScope sIsWeighing) (by decide +kernel)) (fun _ _ _ _ _ => pg_name (i := 3) nd rfl (.inl rfl)) (fun _ _ _ _ _ => pts_nil)
          (fun _ _ _ _ _ => pe_cmpR op_notIn_seq (pv 3) (pe_ix ix_tup (pv 1) pe_int (fun _ _ => rfl)) rfl)) pa_nil)))))), ?_⟩
    -- the first test
    refine ⟨_, rfl, _, _, _, _, true, rfl, .ty _, .base (.tup hat), k_tt, true, rfl, iteF ?_⟩
    refine ⟨_, rfl, at_, _, rfl, .inr (SqT.of hat), rfl, _, rfl, iteF' rfl ?_⟩
    refine ⟨_, rfl, at_, _, 0, _, rfl, rfl, SqT.of hat, atI_nat (j := 0) rfl, _, _, _, _, true, rfl, .ty _, .base (.str _), k_ss, true, rfl, iteF ?_⟩
    -- the second test
    refine ⟨_, rfl, at_, _, 0, _, rfl, rfl, SqT.of hat, atI_nat (j := 0) rfl, ?_⟩
    refine ⟨_, rfl, a, _, 1, _, rfl, rfl, SqT.of ha, atI_nat (j := 1) rfl, ay, rfl, ⟨ys, SqT.of hay⟩, fun D hD => lc_row0 hD hay hys (by have := hk.scales; omega) (fun _ => rfl) (fun _ => rfl) fun H1 s1 h1' => ?_⟩
    obtain ⟨ns, e1, g1⟩ := h1'
    have g1' := g1.strs
    subst g1'
    refine ⟨D, _, rfl, .inl (SqL.of e1), rfl, flat_strs _, _, rfl, iteF' ?_ ?_⟩
    · show (!inV _ _) = false
      rw [inV_str, decide_eq_true (show g.a ∈ List.map (fun x => x.1) h.2.items from hg.scale)]
      rfl
    -- the third test
    have hl : ∀ l : List Str, l.Sublist (names h.1.items) → l.length ≤ 100 := fun l sl => by
      have e := sl.length_le
      unfold names at e
      rw [List.length_map] at e
      have := hk.things
      omega
    refine ⟨_, rfl, _, rfl, at_, _, 1, _, rfl, rfl, SqT.of (s1 _ _ hat), atI_nat (j := 1) rfl, ?_⟩
    refine ⟨_, _, h, g.b.items, rfl, hv.up s1, h1.up s1, by have := hk.things; omega, hl _ hg.left, fun z hz => hg.left.subset hz, rise_of hg.left hk.nt, fun H2 s2 => ⟨true, rfl, iteF ?_⟩⟩
    have s12 := Same.trans s1 s2
    refine ⟨_, rfl, _, rfl, at_, _, 2, _, rfl, rfl, SqT.of (s12 _ _ hat), atI_nat (j := 2) rfl, ?_⟩
    refine ⟨_, _, h, g.c.items, rfl, hv.up s12, h2.up s12, by have := hk.things; omega, hl _ hg.right, fun z hz => hg.right.subset hz, rise_of hg.right hk.nt, fun H3 s3 => ⟨true, rfl, iteF ?_⟩⟩
    have s13 := Same.trans s12 s3
    -- the answer
    obtain ⟨b1, us, rfl, hb1, hus⟩ := ho_tup h1
    obtain ⟨b2, ws, rfl, hb2, hws⟩ := ho_tup h2
    have hws' := hws.strs
    subst hws'
    refine ⟨_, rfl, at_, _, 1, _, rfl, rfl, SqT.of (s13 _ _ hat), atI_nat (j := 1) rfl, b1, rfl, ⟨us, SqT.of (s13 _ _ hb1)⟩, fun D2 hD2 => ?_⟩
    refine lc_seq (walk_tup (K := K) (a := b1) (xs := us)) hD2 (fun _ => some true) (hus.up s13) (by have := hl _ hg.left; omega) (fun H s => SqT.of (s _ _ (s13 _ _ hb1))) ?_ ?_
    · intro z v H2 P1 P0 hz s2 hv2 hP _
      have ez := ho_str hv2
      subst ez
      refine ⟨rfl, yes ⟨_, rfl, _, rfl, at_, _, 2, _, rfl, rfl, SqT.of (s2 _ _ (s13 _ _ hat)), atI_nat (j := 2) rfl, ?_⟩⟩
      refine ⟨b2, _, rfl, .inr (SqT.of (s2 _ _ (s13 _ _ hb2))), rfl, flat_strs _, ?_⟩
      refine hP _ _ true (Same.refl _) rfl ?_
      show Ho _ (V.bl (!inV _ _)) true
      rw [inV_str, decide_eq_false (hg.apart z hz)]
      exact Ho.bl true
    · rintro H4 s4 ⟨bs, e4, g4⟩
      refine ⟨D2, _, rfl, SqL.of (by rw [e4, g4.bls]), ?_⟩
      rw [all_true]
      exact q _ (Same.trans s13 s4)
end
end Sly

set_option Elab.async false
set_option linter.all false
set_option maxRecDepth 100000
set_option maxHeartbeats 4000000
/-! zip of two iterators of any kind whose tuple is still out; list(zip(list, tuple)), dict(zip(list, tuple)). -/
namespace Sly
open PySem PySem.Spec PyProof.Rows L2
open Sem (wp)
section
variable {prog : Program} {w : PySem.World} {A : Around} {E : Value → Shared → Prop} {s : Shared} {z TI TO i1 i2 : Addr} {fp1 fp2 : List Addr} {n1 n2 i : Nat} {P1 P2 : Nat → Value → Prop} {St1 St2 : Nat → Heap → Prop}
/-- the next pair, the tuple T still out -/
theorem zipH_item {T : Addr} {f : Bool} {oT : Obj} {Q : Value → Shared → Prop} (S : ZipSep2 z TI TO i1 i2 fp1 fp2) (D1 : Draws prog w A i1 fp1 n1 P1 St1) (D2 : Draws prog w A i2 fp2 n2 P2 St2)
    (hz : IsZipHeld s.heap z TI TO T f) (hT : s.heap.get? T = some oT) (hTI : IsTupOf2 s.heap TI (.ref i1) (.ref i2)) (st1 : St1 i s.heap) (st2 : St2 i s.heap) (l1 : i < n1) (l2 : i < n2)
    (hQ : ∀ x1 x2 h' tk, P1 i x1 → P2 i x2 → IsZipHeld h' z TI TO T true → St1 (i + 1) h' → St2 (i + 1) h' → IsTupOf2 h' s.heap.objs.size x1 x2 → h'.objs.size = s.heap.objs.size + 1 →
      (∀ c o, c ≠ z → c ≠ i1 → c ≠ i2 → s.heap.get? c = some o → h'.get? c = some o) → Q (.ref s.heap.objs.size) { s with heap := h', toks := tk }) :
    wpAny (model prog w) A (Builtin.«zip.__next__» ⟨[.ref z], []⟩) (fun fin s' => ∃ v, fin = .done (.ret v) ∧ Q v s') E s := by
  obtain ⟨hp, g, d, tk0, os⟩ := s
  show wpAny _ _ (field (.ref z) 2 >>= _) _ _ _
  refine wpAny_bind <| wpAny_field hz rfl (x := .bool false) rfl ?_
  show wpAny _ _ (field (.ref z) 3 >>= _) _ _ _
  refine wpAny_bind <| wpAny_field hz rfl (x := .ref TI) rfl ?_
  refine wpAny_bind <| wpAny_seqItems hTI rfl ?_
  show wpAny _ _ (Builtin.SmallTypes.ownedTupleIsFree (.ref z) >>= _) _ _ _
  refine wpAny_bind <| wpAny_tupleHeld_zip hz hT fun g0 z0 s0 => ?_
  simp only [Bool.false_eq_true, if_false]
  refine wpAny_bind ?_
  rw [← Array.forIn_toList]
  simp only [List.forIn_cons, List.forIn_nil]
  replace s0 : Heap.SameBut z hp g0 := s0
  refine wpAny_bind <| wpAny_bind <| wpAny_holding ?_
  show wpAny _ _ (Builtin.SmallTypes.nextOf (.ref i1) >>= _) _ _ ⟨g0, g, d, tk0, os⟩
  refine wpAny_bind (D1.item i _ _ _ l1 (D1.over st1 s0 S.zf1) fun x1 g1 tk1 hx1 sn1 hs1 => wpAny_pure ?_)
  replace hs1 : Heap.SameBut i1 g0 g1 := hs1
  refine wpAny_pure ?_
  refine wpAny_bind <| wpAny_bind <| wpAny_holding ?_
  show wpAny _ _ (Builtin.SmallTypes.nextOf (.ref i2) >>= _) _ _ ⟨g1, g, d, tk1, os⟩
  refine wpAny_bind (D2.item i _ _ _ l2 (D2.over (D2.over st2 s0 S.zf2) hs1 S.sep1_2) fun x2 g2 tk2 hx2 sn2 hs2 => wpAny_pure ?_)
  replace hs2 : Heap.SameBut i2 g1 g2 := hs2
  refine wpAny_pure <| wpAny_pure ?_
  show wpAny _ _ (newTuple [x1, x2] >>= _) _ _ ⟨g2, g, d, tk2, os⟩
  refine wpAny_bind <| wpAny_newTuple ?_
  have hsz : g2.objs.size = hp.objs.size := by rw [hs2.1, hs1.1, s0.1]
  have hzz : IsZipHeld g2 z TI TO T true := hs2.extBut _ _ S.zi2 (hs1.extBut _ _ S.zi1 z0)
  have hkk : ∀ c o, c ≠ z → c ≠ i1 → c ≠ i2 → hp.get? c = some o → g2.get? c = some o := fun c o cz c1 c2 e => hs2.extBut _ _ c2 (hs1.extBut _ _ c1 (s0.extBut _ _ cz e))
  have up : ∀ c o, g2.get? c = some o → (g2.push { cls := .type "tuple", data := .seq #[x1, x2] }).get? c = some o := fun c o e => Heap.get?_push_of_some _ e
  refine wpAny_pure ⟨_, rfl, ?_⟩
  show Q (.ref g2.objs.size) ⟨g2.push { cls := .type "tuple", data := .seq #[x1, x2] }, g, d, tk2, os⟩
  have hnew : IsTupOf2 (g2.push { cls := .type "tuple", data := .seq #[x1, x2] }) g2.objs.size x1 x2 := Heap.get?_push_size _ rfl
  have hns : (g2.push { cls := .type "tuple", data := .seq #[x1, x2] }).objs.size = g2.objs.size + 1 := Heap.size_push ..
  rw [hsz] at hnew hns
  rw [hsz]
  exact hQ x1 x2 _ tk2 hx1 hx2 (up _ _ hzz) (D1.frame _ _ _ (D1.over sn1 hs2 S.sep2_1) fun b _ o e => up b o e) (D2.frame _ _ _ sn2 fun b _ o e => up b o e) hnew hns fun c o cz c1 c2 e => up c o (hkk c o cz c1 c2 e)
/-- the end, the tuple T still out: the shorter one has ended -/
theorem zipH_end {T : Addr} {f : Bool} {oT : Obj} {Q : Fin → Shared → Prop} (S : ZipSep2 z TI TO i1 i2 fp1 fp2) (D1 : Draws prog w A i1 fp1 n1 P1 St1) (D2 : Draws prog w A i2 fp2 n2 P2 St2)
    (hz : IsZipHeld s.heap z TI TO T f) (hT : s.heap.get? T = some oT) (hTI : IsTupOf2 s.heap TI (.ref i1) (.ref i2)) (st1 : St1 i s.heap) (st2 : St2 i s.heap) (hend : i = n1 ∨ i < n1 ∧ i = n2)
    (hE : ∀ h' tk e, (∀ c o, c ≠ z → c ≠ i1 → c ≠ i2 → s.heap.get? c = some o → h'.get? c = some o) → (∃ o, h'.get? e = some o ∧ o.cls = .type "StopIteration") → E (.ref e) { s with heap := h', toks := tk }) :
    wpAny (model prog w) A (Builtin.«zip.__next__» ⟨[.ref z], []⟩) Q E s := by
  obtain ⟨hp, g, d, tk0, os⟩ := s
  show wpAny _ _ (field (.ref z) 2 >>= _) _ _ _
  refine wpAny_bind <| wpAny_field hz rfl (x := .bool false) rfl ?_
  show wpAny _ _ (field (.ref z) 3 >>= _) _ _ _
  refine wpAny_bind <| wpAny_field hz rfl (x := .ref TI) rfl ?_
  refine wpAny_bind <| wpAny_seqItems hTI rfl ?_
  show wpAny _ _ (Builtin.SmallTypes.ownedTupleIsFree (.ref z) >>= _) _ _ _
  refine wpAny_bind <| wpAny_tupleHeld_zip hz hT fun g0 z0 s0 => ?_
  simp only [Bool.false_eq_true, if_false]
  refine wpAny_bind ?_
  rw [← Array.forIn_toList]
  simp only [List.forIn_cons, List.forIn_nil]
  replace s0 : Heap.SameBut z hp g0 := s0
  refine wpAny_bind <| wpAny_bind <| wpAny_holding ?_
  show wpAny _ _ (Builtin.SmallTypes.nextOf (.ref i1) >>= _) _ _ ⟨g0, g, d, tk0, os⟩
  rcases hend with rfl | ⟨l1, rfl⟩
  · refine wpAny_bind (D1.done _ _ _ (D1.over st1 s0 S.zf1) fun g1 e hs1 he => ?_)
    exact hE g1 tk0 e (fun c o cz c1 c2 q => hs1 _ _ c1 (s0.extBut _ _ cz q)) he
  · refine wpAny_bind (D1.item i _ _ _ l1 (D1.over st1 s0 S.zf1) fun x1 g1 tk1 hx1 sn1 hs1 => wpAny_pure ?_)
    replace hs1 : Heap.SameBut i1 g0 g1 := hs1
    refine wpAny_pure ?_
    refine wpAny_bind <| wpAny_bind <| wpAny_holding ?_
    show wpAny _ _ (Builtin.SmallTypes.nextOf (.ref i2) >>= _) _ _ ⟨g1, g, d, tk1, os⟩
    refine wpAny_bind (D2.done _ _ _ (D2.over (D2.over st2 s0 S.zf2) hs1 S.sep1_2) fun g2 e hs2 he => ?_)
    exact hE g2 tk1 e (fun c o cz c1 c2 q => hs2 _ _ c2 (hs1.extBut _ _ c1 (s0.extBut _ _ cz q))) he

/-- the state of a zip that is drawn from while the object at d is being filled -/
def ZSt (z TI TO i1 i2 d : Addr) (St1 St2 : Nat → Heap → Prop) (i : Nat) (h : Heap) : Prop :=
  IsTupOf2 h TI (.ref i1) (.ref i2) ∧ St1 i h ∧ St2 i h ∧ ((IsZip h z TI TO .none ∧ ∃ a b, IsTupOf2 h TO a b) ∨ ∃ T f oT, IsZipHeld h z TI TO T f ∧ h.get? T = some oT ∧ T ≠ z ∧ T ≠ i1 ∧ T ≠ i2 ∧ T ≠ d)
theorem ZSt.type {d : Addr} (st : ZSt z TI TO i1 i2 d St1 St2 i s.heap) : s.TypeIs (.ref z) "zip" := by
  obtain ⟨_, _, _, ⟨hz, _⟩ | ⟨T, f, oT, hz, _⟩⟩ := st
  · exact ⟨_, hz, rfl⟩
  · exact ⟨_, hz, rfl⟩
theorem zs_item {d : Addr} {Q : Option Value → Shared → Prop} (S : ZipSep2 z TI TO i1 i2 fp1 fp2) (D1 : Draws prog w A.in1 i1 fp1 n1 P1 St1) (D2 : Draws prog w A.in1 i2 fp2 n2 P2 St2) (st : ZSt z TI TO i1 i2 d St1 St2 i s.heap) (hd : d < s.heap.objs.size)
    (l1 : i < n1) (l2 : i < n2)
    (hQ : ∀ x1 x2 h' tk, P1 i x1 → P2 i x2 → ZSt z TI TO i1 i2 d St1 St2 (i + 1) h' → IsTupOf2 h' s.heap.objs.size x1 x2 → h'.objs.size = s.heap.objs.size + 1 →
      (∀ c o, c ∉ [z, TO, i1, i2] → s.heap.get? c = some o → h'.get? c = some o) → Q (some (.ref s.heap.objs.size)) { s with heap := h', toks := tk }) :
    wpAny (model prog w) A (pyNext (.ref z)) Q E s := by
  have hTy := st.type
  obtain ⟨hTI, st1, st2, hz⟩ := st
  have lt : ∀ {c o}, s.heap.get? c = some o → s.heap.objs.size ≠ c := fun e => Nat.ne_of_gt (Heap.lt_size e)
  obtain ⟨o1, e1⟩ := D1.live _ _ st1
  obtain ⟨o2, e2⟩ := D2.live _ _ st2
  unfold pyNext
  rcases hz with ⟨hz, a, b, hTO⟩ | ⟨T, f, oT, hz, hT, r1, r2, r3, r4⟩
  · refine wpAny_bind <| wpAny_attempt <| wpAny_callSpecial?_slot (name := Str.ofString "__next__") hTy F.slot_zip_next <| wpAny_call_entry F.slot_zip_next hTy F.entry_zip_next
      (zipD2_next_item S D1 D2 hz hTI hTO st1 st2 l1 l2 fun x1 x2 h' tk p1 p2 a1 a2 a3 a4 a5 a6 hk => wpAny_pure ?_) (F.args_zip_next_1 _)
    exact hQ x1 x2 h' tk p1 p2 ⟨hk _ _ S.TIz S.TITO S.TIi1 S.TIi2 hTI, a3, a4, .inr ⟨s.heap.objs.size, false, _, a1, a5, lt hz, lt e1, lt e2, Nat.ne_of_gt hd⟩⟩ a5 a6
      fun c o hc e => hk c o (fun q => hc (by simp [q])) (fun q => hc (by simp [q])) (fun q => hc (by simp [q])) (fun q => hc (by simp [q])) e
  · refine wpAny_bind <| wpAny_attempt <| wpAny_callSpecial?_slot (name := Str.ofString "__next__") hTy F.slot_zip_next <| wpAny_call_entry F.slot_zip_next hTy F.entry_zip_next
      (zipH_item S D1 D2 hz hT hTI st1 st2 l1 l2 fun x1 x2 h' tk p1 p2 a1 a3 a4 a5 a6 hk => wpAny_pure ?_) (F.args_zip_next_1 _)
    exact hQ x1 x2 h' tk p1 p2 ⟨hk _ _ S.TIz S.TIi1 S.TIi2 hTI, a3, a4, .inr ⟨T, true, oT, a1, hk _ _ r1 r2 r3 hT, r1, r2, r3, r4⟩⟩ a5 a6
      fun c o hc e => hk c o (fun q => hc (by simp [q])) (fun q => hc (by simp [q])) (fun q => hc (by simp [q])) e
theorem zs_done {d : Addr} {Q : Option Value → Shared → Prop} (S : ZipSep2 z TI TO i1 i2 fp1 fp2) (D1 : Draws prog w A.in1 i1 fp1 n1 P1 St1) (D2 : Draws prog w A.in1 i2 fp2 n2 P2 St2) (st : ZSt z TI TO i1 i2 d St1 St2 i s.heap) (he : i = min n1 n2)
    (hQ : ∀ h' tk, (∀ c o, c ∉ [z, TO, i1, i2] → s.heap.get? c = some o → h'.get? c = some o) → Q none { s with heap := h', toks := tk }) :
    wpAny (model prog w) A (pyNext (.ref z)) Q E s := by
  have hTy := st.type
  obtain ⟨hTI, st1, st2, hz⟩ := st
  have hle : i ≤ n1 ∧ i ≤ n2 := by omega
  rcases hz with ⟨hz, a, b, hTO⟩ | ⟨T, f, oT, hz, hT, r1, r2, r3, r4⟩
  · exact wpAny_pyNext_zipD2_end S D1 D2 hz hTI hTO st1 st2 hle.1 hle.2 (by omega) fun h' tk hk => hQ h' tk
      fun c o hc e => hk c o (fun q => hc (by simp [q])) (fun q => hc (by simp [q])) (fun q => hc (by simp [q])) (fun q => hc (by simp [q])) e
  · unfold pyNext
    refine wpAny_bind <| wpAny_attempt <| wpAny_callSpecial?_slot (name := Str.ofString "__next__") hTy F.slot_zip_next <| wpAny_call_entry F.slot_zip_next hTy F.entry_zip_next
      (zipH_end S D1 D2 hz hT hTI st1 st2 (by omega) fun h' tk e hk hs => ?_) (F.args_zip_next_1 _)
    obtain ⟨o, ho, hc⟩ := hs
    refine wpAny_bind <| wpAny_isInstance (T := "StopIteration") (b := true) ⟨o, ho, hc⟩ isSubtype_stop ?_
    exact wpAny_pure (hQ h' tk fun c o hc e => hk c o (fun q => hc (by simp [q])) (fun q => hc (by simp [q])) (fun q => hc (by simp [q])) e)
/-- the state stands while all but d stands -/
theorem ZSt.frame {d : Addr} {h h' : Heap} (S : ZipSep2 z TI TO i1 i2 fp1 fp2) (D1 : Draws prog w A i1 fp1 n1 P1 St1) (D2 : Draws prog w A i2 fp2 n2 P2 St2) (hd : d ∉ z :: TI :: TO :: (fp1 ++ fp2)) (st : ZSt z TI TO i1 i2 d St1 St2 i h)
    (hk : ∀ b o, b ≠ d → h.get? b = some o → h'.get? b = some o) : ZSt z TI TO i1 i2 d St1 St2 i h' := by
  simp only [List.mem_cons, List.mem_append, not_or] at hd
  obtain ⟨dz, dTI, dTO, d1, d2⟩ := hd
  obtain ⟨hTI, st1, st2, hz⟩ := st
  refine ⟨hk _ _ (Ne.symm dTI) hTI, D1.frame _ _ _ st1 fun b hb o e => hk b o (fun q => d1 (q ▸ hb)) e, D2.frame _ _ _ st2 fun b hb o e => hk b o (fun q => d2 (q ▸ hb)) e, ?_⟩
  rcases hz with ⟨hz, a, b, hTO⟩ | ⟨T, f, oT, hz, hT, r1, r2, r3, r4⟩
  · exact .inl ⟨hk _ _ (Ne.symm dz) hz, a, b, hk _ _ (Ne.symm dTO) hTO⟩
  · exact .inr ⟨T, f, oT, hk _ _ (Ne.symm dz) hz, hk _ _ r4 hT, r1, r2, r3, r4⟩
theorem nolen_zip : typeLookup (.type "zip") "__len__" = pure none := by
  rw [typeLookup_type, builtinLookup_eq_fast]
  kernel_rfl
theorem nohint_zip : typeLookup (.type "zip") "__length_hint__" = pure none := by
  rw [typeLookup_type, builtinLookup_eq_fast]
  kernel_rfl
/-- the pairs that stand so far -/
def Pairs (N0 : Nat) (P1 P2 : Nat → Value → Prop) (d : Addr) (h : Heap) (acc : Array Value) (i : Nat) : Prop :=
  acc.size = i ∧ ∀ j v, acc[j]? = some v → ∃ T x1 x2, v = .ref T ∧ P1 j x1 ∧ P2 j x2 ∧ IsTupOf2 h T x1 x2 ∧ T ≠ d ∧ T ∉ [z, TO, i1, i2] ∧ N0 ≤ T
theorem ext_zip {R : Result → Shared → Prop} {d : Addr} {res : Value} {N0 : Nat} (hN : N0 ≤ TO) (S : ZipSep2 z TI TO i1 i2 fp1 fp2) (D1 : Draws prog w A.in1.in1 i1 fp1 n1 P1 St1) (D2 : Draws prog w A.in1.in1 i2 fp2 n2 P2 St2) (hd : d ∉ z :: TI :: TO :: (fp1 ++ fp2)) (hn : min n1 n2 ≤ sizeLine)
    (hlt : ∀ h i, St1 i h → St2 i h → i1 < h.objs.size ∧ i2 < h.objs.size) :
    ∀ (k i : Nat) (s : Shared) (acc : Array Value) (c : Nat), min n1 n2 - i = k → i ≤ min n1 n2 → ZSt z TI TO i1 i2 d St1 St2 i s.heap → TO < s.heap.objs.size → s.heap.get? d = some { cls := .type "list", dict := none, data := .seq acc c, slots := #[] } → Pairs (z := z) (TO := TO) (i1 := i1) (i2 := i2) N0 P1 P2 d s.heap acc i →
      (∀ h' tk acc' c', (∀ b o, b ≠ d → b ∉ [z, TO, i1, i2] → s.heap.get? b = some o → h'.get? b = some o) → h'.get? d = some { cls := .type "list", dict := none, data := .seq acc' c', slots := #[] } → Pairs (z := z) (TO := TO) (i1 := i1) (i2 := i2) N0 P1 P2 d h' acc' (min n1 n2) → R (.ok (.ret res)) { s with heap := h', toks := tk }) →
      codeAny (model prog w) A (.builtin "list.extend.loop" ⟨[.ref d, .ref z, res], []⟩) R s := by
  have hdw : d ∉ [z, TO, i1, i2] := by
    have hd' := hd
    simp only [List.mem_cons, List.mem_append, not_or] at hd'
    obtain ⟨dz, dTI, dTO, d1, d2⟩ := hd'
    intro hm
    simp only [List.mem_cons, List.not_mem_nil, or_false] at hm
    rcases hm with e | e | e | e
    · exact dz e
    · exact dTO e
    · exact d1 (e ▸ S.mem1)
    · exact d2 (e ▸ S.mem2)
  intro k
  induction k with
  | zero =>
    intro i s acc c hk hi st hTO hS hacc hR
    have e : i = min n1 n2 := by omega
    refine codeAny_builtin F.entry_extend_loop ?_
    rw [Around.under_plainId F.plain_extend_loop _]
    show wpAny _ A.in1 (pyNext (.ref z) >>= _) _ _ s
    refine wpAny_bind (zs_done S D1 D2 st e fun h' tk hk => ?_)
    refine wpAny_pure (hR h' tk acc c (fun b o _ hb q => hk b o hb q) (hk d _ hdw hS) ⟨by rw [hacc.1, e], fun j v hj => ?_⟩)
    obtain ⟨T, x1, x2, ev, p1, p2, hT, r1, r2, r3⟩ := hacc.2 j v hj
    exact ⟨T, x1, x2, ev, p1, p2, hk _ _ r2 hT, r1, r2, r3⟩
  | succ k ih =>
    intro i s acc c hk hi st hTO hS hacc hR
    have l : i < n1 ∧ i < n2 := by omega
    have hds : d < s.heap.objs.size := Heap.lt_size hS
    have hzl : z < s.heap.objs.size := by
      obtain ⟨o, ho, _⟩ := st.type
      exact Heap.lt_size ho
    obtain ⟨hi1, hi2⟩ := hlt _ _ st.2.1 st.2.2.1
    refine codeAny_builtin F.entry_extend_loop ?_
    rw [Around.under_plainId F.plain_extend_loop _]
    show wpAny _ A.in1 (pyNext (.ref z) >>= _) _ _ s
    refine wpAny_bind (zs_item S D1 D2 st hds l.1 l.2 fun x1 x2 h' tk p1 p2 st' hT hsz hk' => ?_)
    have hS' := hk' d _ hdw hS
    show wpAny _ A.in1 (updateSeq d (·.push (.ref s.heap.objs.size)) >>= _) _ _ _
    refine wpAny_bind ?_
    have oth : ∀ b o, b ≠ d → h'.get? b = some o → (h'.update d (Obj.mapSeq (·.push (.ref s.heap.objs.size)))).get? b = some o := fun b o hb e => (Heap.get?_update_other _ _ (Ne.symm hb)).trans e
    refine wpAny_updateSeq (s := { s with heap := h', toks := tk }) hS' rfl (wpAny_pure ⟨plainId_quiet F.plain_extend_loop _, ih (i + 1) _ (acc.push (.ref s.heap.objs.size)) _ (by omega) (by omega) (st'.frame S D1 D2 hd oth) ?_ (Heap.get?_update_self _ hS' rfl) ⟨by rw [Array.size_push, hacc.1], fun j v hj => ?_⟩ fun h'' tk'' acc' c' hk'' hS'' hacc' => ?_⟩)
      (by rw [hacc.1]; omega) (by show (acc.push (.ref s.heap.objs.size)).size ≤ sizeLine + 1; rw [Array.size_push, hacc.1]; omega)
    · show TO < (h'.update d _).objs.size
      rw [Heap.size_update, hsz]
      exact Nat.lt_succ_of_lt hTO
    · rw [Array.getElem?_push] at hj
      split at hj
      · rename_i ej
        have ej' : j = i := by rw [ej, hacc.1]
        subst ej'
        cases hj
        refine ⟨_, x1, x2, rfl, p1, p2, oth _ _ (Nat.ne_of_gt hds) hT, Nat.ne_of_gt hds, fun hm => ?_, Nat.le_trans hN (Nat.le_of_lt hTO)⟩
        simp only [List.mem_cons, List.not_mem_nil, or_false] at hm
        rcases hm with e | e | e | e
        · exact Nat.ne_of_gt hzl e
        · exact Nat.ne_of_gt hTO e
        · exact Nat.ne_of_gt hi1 e
        · exact Nat.ne_of_gt hi2 e
      · obtain ⟨T, y1, y2, ev, q1, q2, hT', r1, r2, r3⟩ := hacc.2 j v hj
        exact ⟨T, y1, y2, ev, q1, q2, oth _ _ r1 (hk' _ _ r2 hT'), r1, r2, r3⟩
    · exact hR h'' tk'' acc' c' (fun b o hb hw e => hk'' b o hb hw (oth b o hb (hk' b o hw e))) hS'' hacc'
/-- list(zip) into the new list at d -/
theorem ext_zip_with {R : Result → Shared → Prop} {d : Addr} {res : Value} {c0 N0 : Nat} (hN : N0 ≤ TO) (S : ZipSep2 z TI TO i1 i2 fp1 fp2) (D1 : Draws prog w A.in1.in1 i1 fp1 n1 P1 St1) (D2 : Draws prog w A.in1.in1 i2 fp2 n2 P2 St2) (hd : d ∉ z :: TI :: TO :: (fp1 ++ fp2)) (hn : min n1 n2 ≤ sizeLine)
    (hlt : ∀ h i, St1 i h → St2 i h → i1 < h.objs.size ∧ i2 < h.objs.size) (hz : IsZip s.heap z TI TO .none) (st : ZSt z TI TO i1 i2 d St1 St2 0 s.heap) (hTO : TO < s.heap.objs.size) (hS : s.heap.get? d = some { cls := .type "list", dict := none, data := .seq #[] c0, slots := #[] })
    (hR : ∀ h' tk acc' c', (∀ b o, b ≠ d → b ∉ [z, TO, i1, i2] → s.heap.get? b = some o → h'.get? b = some o) → h'.get? d = some { cls := .type "list", dict := none, data := .seq acc' c', slots := #[] } → Pairs (z := z) (TO := TO) (i1 := i1) (i2 := i2) N0 P1 P2 d h' acc' (min n1 n2) → R (.ok (.ret res)) { s with heap := h', toks := tk }) :
    wpAny (model prog w) A.in1 (Builtin.List.listExtendWith (.ref d) (.ref z) res)
      (fun fin s' => match fin with | .done f => R (.ok f) s' | .again c' => c'.quiet = true ∧ codeAny (model prog w) A c' R s') (fun e s' => R (.error e) s') s := by
  have hdz : d ≠ z := fun e => hd (by rw [e]; exact List.mem_cons_self)
  unfold Builtin.List.listExtendWith
  refine wpAny_bind <| wpAny_typeOf st.type ?_
  have e1 : Builtin.List.listSameRef (.ref d) (.ref z) = false := by simp [Builtin.List.listSameRef, hdz]
  have e2 : (Value.type "zip" == Value.type "list") = false := by decide
  have e3 : (Value.type "zip" == Value.type "tuple") = false := by decide
  simp only [e1, e2, e3, Bool.or_false, Bool.false_eq_true, if_false]
  refine wpAny_bind <| wpAny_pyIter_zip hz ?_
  refine wpAny_bind <| wpAny_holding ?_
  unfold Builtin.List.listLengthHint
  refine wpAny_bind <| wpAny_specialOf st.type nolen_zip ?_
  show wpAny _ A.in1 (specialOf (Value.ref z) (Str.ofString "__length_hint__") >>= _) _ _ _
  refine wpAny_bind <| wpAny_specialOf st.type nohint_zip ?_
  refine wpAny_pure ?_
  show wpAny _ A.in1 (rule "list.extend.makes-room" >>= fun _ => Builtin.List.listTouch (.ref d) >>= fun _ => again (.builtin "list.extend.loop" ⟨[.ref d, .ref z, res], []⟩)) _ _ _
  refine wpAny_bind <| wpAny_rule ?_
  refine wpAny_bind ?_
  show wpAny _ A.in1 (updateSeq d (·.push .none) >>= fun _ => updateSeq d (·.pop)) _ _ _
  have sm : ((#[] : Array Value).push .none).size ≤ sizeLine + 1 := by
    rw [sizeLine_eq]
    decide
  refine wpAny_bind (wpAny_updateSeq hS rfl ?_ (Nat.zero_le _) sm)
  have hS2 := Heap.get?_update_self (Obj.mapSeq (·.push Value.none)) hS rfl
  refine wpAny_updateSeq hS2 rfl ?_ (by show ((#[] : Array Value).push .none).size ≤ sizeLine; rw [sizeLine_eq]; decide) (by show (((#[] : Array Value).push .none).pop).size ≤ sizeLine + 1; rw [sizeLine_eq]; decide)
  have hS3 := Heap.get?_update_self (Obj.mapSeq (·.pop)) hS2 rfl
  have oth : ∀ b o, b ≠ d → s.heap.get? b = some o → ((s.heap.update d (Obj.mapSeq (·.push Value.none))).update d (Obj.mapSeq (·.pop))).get? b = some o :=
    fun b o hb e => (Heap.get?_update_other _ _ (Ne.symm hb)).trans ((Heap.get?_update_other _ _ (Ne.symm hb)).trans e)
  refine wpAny_pure ⟨plainId_quiet F.plain_extend_loop _, ext_zip hN S D1 D2 hd hn hlt _ 0 _ _ _ rfl (Nat.zero_le _) (st.frame S D1 D2 hd oth) ?_ hS3 ⟨rfl, fun j v hj => by simp at hj⟩ fun h' tk acc' c' hk hd' hp => ?_⟩
  · show TO < ((s.heap.update d _).update d _).objs.size
    rw [Heap.size_update, Heap.size_update]
    exact hTO
  · exact hR h' tk acc' c' (fun b o hb hw e => hk b o hb hw (oth b o hb e)) hd' hp
end
section
variable {prog : Program} {w : PySem.World} {A : Around} {E : Value → Shared → Prop} {s : Shared}
/-- list(zip(l, t)): a new list of new pairs -/
theorem list_zip {l t : Addr} {xs ys : Array Value} {Q : Value → Shared → Prop} (hh : A.handled = none) (hl : s.heap.IsList l xs) (ht : s.heap.IsTuple t ys) (hn : min xs.size ys.size ≤ sizeLine)
    (hQ : ∀ h' tk D acc c, (∀ b o, s.heap.get? b = some o → h'.get? b = some o) → s.heap.objs.size ≤ D → h'.get? D = some { cls := .type "list", dict := none, data := .seq acc c, slots := #[] } → acc.size = min xs.size ys.size →
      (∀ (j : Nat) (v : Value), acc[j]? = some v → ∃ (T : Addr) (x y : Value), v = .ref T ∧ xs[j]? = some x ∧ ys[j]? = some y ∧ IsTupOf2 h' T x y ∧ s.heap.objs.size ≤ T ∧ T ≠ D) → Q (.ref D) { s with heap := h', toks := tk }) :
    wpAny (model prog w) A (PySem.call (Value.type "zip") [Value.ref l, Value.ref t]) (fun v s1 => wpAny (model prog w) A (PySem.call (Value.type "list") [v]) Q E s1) E s := by
  have hl' := hl
  have ht' := ht
  obtain ⟨ol, el, _⟩ := hl
  obtain ⟨ot, et, _⟩ := ht
  have ll : l < s.heap.objs.size := Heap.lt_size el
  have lt : t < s.heap.objs.size := Heap.lt_size et
  refine zip_begins2 (begins_list l xs) (begins_tuple t ys) hl' ht' fun h1 hz hTI hTO o1 o2 hsz hk => ?_
  have h3 : A.in1.in1.in1.handled = none := hh
  have D1 := Draws.list (prog := prog) (w := w) h3 s.heap.objs.size l (Nat.ne_of_lt ll) xs
  have D2 := Draws.tuple (prog := prog) (w := w) h3 (s.heap.objs.size + 1) t (Nat.ne_of_lt (Nat.lt_succ_of_lt lt)) ys
  have S : ZipSep2 (s.heap.objs.size + 4) (s.heap.objs.size + 2) (s.heap.objs.size + 3) s.heap.objs.size (s.heap.objs.size + 1) [s.heap.objs.size, l] [s.heap.objs.size + 1, t] :=
    zip_sep2 (fun b hb => by rw [List.mem_singleton.mp hb]; exact ll) (fun b hb => by rw [List.mem_singleton.mp hb]; exact lt)
  have far : ∀ k : Nat, k ≤ 4 → (h1.objs.size : Nat) ≠ s.heap.objs.size + k := fun k hk' e => by
    rw [hsz] at e
    omega
  have hd : h1.objs.size ∉ (s.heap.objs.size + 4) :: (s.heap.objs.size + 2) :: (s.heap.objs.size + 3) :: ([s.heap.objs.size, l] ++ [s.heap.objs.size + 1, t]) := fun hm => by
    simp only [List.mem_cons, List.mem_append, List.not_mem_nil, or_false] at hm
    have big : s.heap.objs.size < h1.objs.size := by
      rw [hsz]
      exact Nat.lt_add_of_pos_right (by decide)
    rcases hm with e | e | e | (e | e) | e | e
    · exact far 4 (by decide) e
    · exact far 2 (by decide) e
    · exact far 3 (by decide) e
    · exact far 0 (by decide) e
    · rw [e] at big
      exact Nat.lt_asymm big ll
    · exact far 1 (by decide) e
    · rw [e] at big
      exact Nat.lt_asymm big lt
  have hpush : ∀ b o, h1.get? b = some o → (h1.push { cls := .type "list", data := .seq #[] }).get? b = some o := fun b o e => Heap.get?_push_of_some _ e
  refine callType_codes (Q₁ := fun obj s₁ => obj = .ref h1.objs.size ∧ s₁ = { s with heap := h1.push { cls := .type "list", data := .seq #[] } }) F.called_list (F.typeCall_list_1 _) F.entry_list_init
    (code_list_new _ ⟨rfl, rfl⟩) fun obj s₁ hs₁ => ?_
  obtain ⟨rfl, rfl⟩ := hs₁
  have hS : (h1.push { cls := .type "list", data := .seq #[] }).get? h1.objs.size = some { cls := .type "list", data := .seq #[] } := Heap.get?_push_size _ rfl
  refine ⟨⟨_, hS, rfl⟩, F.args_list_init_2 _ _, ?_⟩
  show wpAny _ A.in1.in1 (do let old ← Builtin.List.listItems (.ref h1.objs.size); Builtin.List.listUpdate (.ref h1.objs.size) (fun _ => #[]); letGo old.toList.reverse; Builtin.List.listExtendWith (.ref h1.objs.size) (.ref (s.heap.objs.size + 4)) .none) _ _ _
  refine wpAny_bind ?_
  unfold Builtin.List.listItems
  refine wpAny_bind (wpAny_seqItems hS rfl (wpAny_pure ?_))
  show wpAny _ A.in1.in1 (updateSeq h1.objs.size (fun _ => #[]) >>= fun _ => letGo (#[] : Array Value).toList.reverse >>= fun _ => Builtin.List.listExtendWith (.ref h1.objs.size) (.ref (s.heap.objs.size + 4)) .none) _ _ _
  refine wpAny_bind (wpAny_updateSeq hS rfl ?_ (Nat.zero_le _) (Nat.zero_le _))
  have hS2 := Heap.get?_update_self (Obj.mapSeq (fun _ => (#[] : Array Value))) hS rfl
  have oth : ∀ b o, b ≠ h1.objs.size → (h1.push { cls := .type "list", data := .seq #[] }).get? b = some o → ((h1.push { cls := .type "list", data := .seq #[] }).update h1.objs.size (Obj.mapSeq (fun _ => (#[] : Array Value)))).get? b = some o :=
    fun b o hb e => (Heap.get?_update_other _ _ (Ne.symm hb)).trans e
  have oth2 : ∀ b o, h1.get? b = some o → ((h1.push { cls := .type "list", data := .seq #[] }).update h1.objs.size (Obj.mapSeq (fun _ => (#[] : Array Value)))).get? b = some o := fun b o e => oth b o (Nat.ne_of_lt (Heap.lt_size e)) (hpush b o e)
  have old : ∀ b o, s.heap.get? b = some o → ((h1.push { cls := .type "list", data := .seq #[] }).update h1.objs.size (Obj.mapSeq (fun _ => (#[] : Array Value)))).get? b = some o := fun b o e => oth2 b o (hk b o e)
  refine wpAny_bind <| wpAny_letGo ?_
  refine ext_zip_with (A := A.in1) (R := wants (fun r s₂ => r = .none ∧ Q (.ref h1.objs.size) s₂) E) (d := h1.objs.size) (res := .none) (N0 := s.heap.objs.size) (Nat.le_add_right _ 3) S D1 D2 hd hn ?_ (oth2 _ _ hz) ?_ ?_ hS2 ?_
  · rintro h i ⟨⟨a1, q1, _⟩, _⟩ ⟨⟨a2, q2, _⟩, _⟩
    exact ⟨Heap.lt_size q1, Heap.lt_size q2⟩
  · exact ⟨oth2 _ _ hTI, ⟨⟨_, oth2 _ _ o1, rfl, rfl⟩, hl'.at fun o e => old l o e⟩, ⟨⟨_, oth2 _ _ o2, rfl, rfl⟩, ht'.at fun o e => old t o e⟩, .inl ⟨oth2 _ _ hz, _, _, oth2 _ _ hTO⟩⟩
  · exact Heap.lt_size (oth2 _ _ hTO)
  · intro h' tk acc c hkeep hD hp
    have dN : s.heap.objs.size ≤ h1.objs.size := by
      rw [hsz]
      exact Nat.le_add_right _ _
    refine ⟨rfl, hQ h' tk h1.objs.size acc c (fun b o e => ?_) dN hD hp.1 fun j v hj => ?_⟩
    · have bl := Heap.lt_size e
      refine hkeep b o (Nat.ne_of_lt (Nat.lt_of_lt_of_le bl dN)) (fun hm => ?_) (old b o e)
      simp only [List.mem_cons, List.not_mem_nil, or_false] at hm
      have big : ∀ k, b ≠ s.heap.objs.size + k := fun k e => Nat.not_lt_of_le (Nat.le_add_right _ k) (e ▸ bl)
      rcases hm with e | e | e | e
      · exact big 4 e
      · exact big 3 e
      · exact big 0 e
      · exact big 1 e
    · obtain ⟨T, x, y, ev, hx, hy, hT, r1, _, r3⟩ := hp.2 j v hj
      exact ⟨T, x, y, ev, hx, hy, hT, r3, r1⟩
end
end Sly

set_option Elab.async false
set_option linter.all false
set_option maxRecDepth 100000
set_option maxHeartbeats 4000000
/-! dict(zip(list, tuple)) at the library's level; both as rules of the layer. -/
namespace Sly
open PySem PySem.Spec PyProof.Rows L2
section
variable {prog : Program} {w : PySem.World}
theorem zipArg (z TI TO i1 i2 l t : Addr) (S : ZipSep2 z TI TO i1 i2 [i1, l] [i2, t]) (n1 : l ≠ i1) (n2 : t ≠ i2) (xs ys : Array Value) :
    PairArg prog w "zip" z [z, TI, TO, i1, l, i2, t] [z, TO, i1, i2] (min xs.size ys.size) (fun i k v => xs[i]? = some k ∧ ys[i]? = some v)
      (fun h => IsZip h z TI TO .none ∧ IsTupOf2 h TI (.ref i1) (.ref i2) ∧ (∃ a b, IsTupOf2 h TO a b) ∧ (h.IsListIter i1 l 0 ∧ h.IsList l xs) ∧ h.IsTupleIter i2 t 0 ∧ h.IsTuple t ys) where
  type := fun s ok => ⟨_, ok.1, rfl⟩
  notDict := by decide
  keep := fun h h' ok hk => by
    obtain ⟨hz, hTI, ⟨a, b, hTO⟩, ⟨q1, q2⟩, q3, q4⟩ := ok
    exact ⟨hk _ _ hz, hk _ _ hTI, ⟨a, b, hk _ _ hTO⟩, ⟨q1.at fun o e => hk _ o e, q2.at fun o e => hk _ o e⟩, q3.at fun o e => hk _ o e, q4.at fun o e => hk _ o e⟩
  there := fun h ok b hb => by
    obtain ⟨hz, hTI, ⟨a, c, hTO⟩, ⟨⟨o1, q1, _⟩, ⟨o2, q2, _⟩⟩, ⟨o3, q3, _⟩, ⟨o4, q4, _⟩⟩ := ok
    simp only [List.mem_cons, List.not_mem_nil, or_false] at hb
    rcases hb with rfl | rfl | rfl | rfl | rfl | rfl | rfl
    · exact ⟨_, hz⟩
    · exact ⟨_, hTI⟩
    · exact ⟨_, hTO⟩
    · exact ⟨_, q1⟩
    · exact ⟨_, q2⟩
    · exact ⟨_, q3⟩
    · exact ⟨_, q4⟩
  sub := fun b hb => by
    simp only [List.mem_cons, List.not_mem_nil, or_false] at hb ⊢
    rcases hb with e | e | e | e <;> simp [e]
  noKeys := fun A s Q E hA ok h => getAttrOr_miss_zip ok.1 rfl rfl rfl zip_no_keys (by decide +kernel) hA h
  iter := fun A s d Q E hA ok hd hdf h => by
    have hA1 : A.in1.handled = none := hA
    have D1 := Draws.list (prog := prog) (w := w) hA1 i1 l n1 xs
    have D2 := Draws.tuple (prog := prog) (w := w) hA1 i2 t n2 ys
    obtain ⟨hz, hTI, hTO, q1, q2⟩ := ok
    have hdf' : d ∉ z :: TI :: TO :: ([i1, l] ++ [i2, t]) := hdf
    refine wpAny_pyIter_zip hz (h z [z, TO, i1, i2] (ZSt z TI TO i1 i2 d _ _) s.heap s.toks ⟨?_, fun i g g' st hk => st.frame S D1 D2 hdf' hk, ?_, ?_⟩ ⟨hTI, q1, q2, .inl ⟨hz, hTO⟩⟩ (fun _ _ e => e) fun b hb => .inl hb)
    · intro hm
      simp only [List.mem_cons, List.not_mem_nil, or_false, not_or] at hdf hm
      obtain ⟨a1, a2, a3, a4, a5, a6, a7⟩ := hdf
      rcases hm with e | e | e | e
      · exact a1 e
      · exact a3 e
      · exact a4 e
      · exact a6 e
    · intro i s1 Q1 E1 hi st hds hQ
      refine zs_item S D1 D2 st hds (by omega) (by omega) fun x1 x2 h' tk p1 p2 st' hT hsz hk => ?_
      exact hQ s1.heap.objs.size x1 x2 h' tk ⟨p1, p2⟩ (.inl ⟨_, hT, rfl, _, rfl⟩) st' fun b o hb e => hk b o hb e
    · intro s1 Q1 E1 st hQ
      exact zs_done S D1 D2 st rfl fun h' tk hk => hQ h' tk hk
end
section
variable {prog : Program} {w : PySem.World} {A : Around} {E : Value → Shared → Prop} {s : Shared}
/-- dict(zip(l, t)) -/
theorem dict_zip {κ : Type} [DecidableEq κ] {knd : KeyKind prog w κ} {kvs : List (κ × Value)} {l t : Addr} {xs ys : Array Value} {Q : Value → Shared → Prop} (hh : A.handled = none) (hl : s.heap.IsList l xs) (ht : s.heap.IsTuple t ys) (hn : min xs.size ys.size ≤ sizeLine)
    (hc : PairsHave knd (min xs.size ys.size) (fun i k v => xs[i]? = some k ∧ ys[i]? = some v) kvs)
    (hQ : ∀ h' tk D, h'.DictOf knd D (merged [] kvs) → (∀ b o, s.heap.get? b = some o → h'.get? b = some o) → s.heap.objs.size ≤ D → Q (.ref D) { s with heap := h', toks := tk }) :
    wpAny (model prog w) A (PySem.call (Value.type "zip") [Value.ref l, Value.ref t]) (fun v s1 => wpAny (model prog w) A (PySem.call (Value.type "dict") [v]) Q E s1) E s := by
  have hl' := hl
  have ht' := ht
  obtain ⟨ol, el, _⟩ := hl
  obtain ⟨ot, et, _⟩ := ht
  have ll : l < s.heap.objs.size := Heap.lt_size el
  have lt : t < s.heap.objs.size := Heap.lt_size et
  refine zip_begins2 (begins_list l xs) (begins_tuple t ys) hl' ht' fun h1 hz hTI hTO o1 o2 hsz hk => ?_
  have S : ZipSep2 (s.heap.objs.size + 4) (s.heap.objs.size + 2) (s.heap.objs.size + 3) s.heap.objs.size (s.heap.objs.size + 1) [s.heap.objs.size, l] [s.heap.objs.size + 1, t] :=
    zip_sep2 (fun b hb => by rw [List.mem_singleton.mp hb]; exact ll) (fun b hb => by rw [List.mem_singleton.mp hb]; exact lt)
  refine call_dict_pairs (s := { s with heap := h1 }) (zipArg _ _ _ _ _ l t S (Nat.ne_of_lt ll) (Nat.ne_of_lt (Nat.lt_succ_of_lt lt)) xs ys) hh
    ⟨hz, hTI, ⟨_, _, hTO⟩, ⟨⟨_, o1, rfl, rfl⟩, hl'.at fun o e => hk l o e⟩, ⟨_, o2, rfl, rfl⟩, ht'.at fun o e => hk t o e⟩ hc hn fun h' tk hd hkeep => ?_
  refine hQ h' tk h1.objs.size hd (fun b o e => hkeep b o (fun hm => ?_) (hk b o e)) (by rw [hsz]; exact Nat.le_add_right _ _)
  have bl := Heap.lt_size e
  simp only [List.mem_cons, List.not_mem_nil, or_false] at hm
  have big : ∀ k, b ≠ s.heap.objs.size + k := fun k e => Nat.not_lt_of_le (Nat.le_add_right _ k) (e ▸ bl)
  rcases hm with e | e | e | e
  · exact big 4 e
  · exact big 3 e
  · exact big 0 e
  · exact big 1 e
end

/-! ### as rules of the layer -/
section
variable {X : Cx} {pins : List (Addr × Obj)} {σ : L2.St} {H : Hp} {s : Shared}
/-- many new objects, tracked at once -/
theorem inv_news {h' : Heap} {tk : Nat} {H' : Hp} (I : Inv X pins σ H s) (k : ∀ b o, s.heap.get? b = some o → h'.get? b = some o) (e : Same H H') (n : ∀ b, b < s.heap.objs.size → H b = none → H' b = none)
    (new : ∀ b o, H b = none → H' b = some o → ObjOk X.prog X.w H' h' b o) : Inv X pins σ H' { s with heap := h', toks := tk } := by
  refine I.un (h' := h') (t' := tk) ⟨fun b o q _ _ _ => k b o q, fun b o q _ _ _ => ⟨o.slots, k b o q⟩, fun b o q hn _ => n b (Heap.lt_size q) hn, fun b o q _ => ⟨o, k b o q⟩, fun b xs q => e b _ q, fun b o u q => e b _ q, fun b ps q => ⟨#[], by rw [e b _ q]; simp⟩⟩ ?_
  intro b o q
  cases hb : H b with
  | none => exact new b o hb q
  | some u =>
    have q' := e b u hb
    rw [q] at q'
    cases q'
    exact (I.hok b o hb).stay (fun c v _ q => k c v q) (fun c q => e c _ q) fun c xs q => e c _ q
/-- the call of zip with two arguments, whatever is done with it -/
theorem ev_zip {a b : Expr} {ta : TA} {p pos : Pos} {R : List V → Hp → Prop} {Q : Value → Shared → Prop} (hg : Gl X "zip") (hm : X.mg "zip" = none) (ha : PA X [a, b] ta) (I : Inv X pins σ H s) (h : ta σ H R)
    (k : ∀ us s1 vs H1, Inv X pins σ H1 s1 → Vals vs us → R vs H1 → wpAny (model X.prog X.w) X.A (PySem.call (Value.type "zip") us) Q X.xe s1)
    (hs : starEach [a, b] X.env = (false, eval a X.env) :: starEach [b] X.env := by rfl) (hpl : (backTo pos (starEach [b] X.env)).any (·.1) = false := by rfl) :
    wpAny (model X.prog X.w) X.A (eval (.Call (.Name "zip" p) [a, b] [] pos) X.env) Q X.xe s :=
  Call_ (ld_blt I hg hm PyProof.Rows.boot_zip (PyProof.Rows.callWith_type1 (thn (ha.run pos pins s σ H R I h) fun us s1 ⟨vs, H1, I1, r1, q1⟩ => k us s1 vs H1 I1 r1 q1) hs hpl))
/-- dict(zip(l, t)), the keys ints and texts -/
def tDictZip (K : PySem.W.Frag) (ta : TA) : TE := fun σ H Q => ta σ H fun vs H1 => ∃ (l t : Addr) (xs ys : List V) (kvs : List (Key × V)), vs = [.ref l, .ref t] ∧ SqL K H1 l xs ∧ SqT K H1 t ys ∧ xs.zip ys = kvs.map (fun kv => (kV kv.1, kv.2)) ∧
  ∀ p, H1 p = none → Q (.ref p) (upd H1 p (.dK (mergeK [] kvs)))
theorem kV_isK {k : Key} {u : Value} (r : RelV (kV k) u) : keyIs k u = true := by
  cases k with
  | inl i =>
    obtain ⟨t, rfl⟩ := (show ∃ t, u = Value.int i t from r)
    exact keyIs_int i t
  | inr x =>
    obtain ⟨t, rfl⟩ := (show ∃ t, u = Value.str x t from r)
    exact keyIs_str x t
theorem kvs_of : ∀ {xs ys : List V} {us ws : List Value} {kvs : List (Key × V)}, Vals xs us → Vals ys ws → xs.zip ys = kvs.map (fun kv => (kV kv.1, kv.2)) →
    ∃ rs : List (Key × Value), KV kvs rs ∧ rs.length = min us.length ws.length ∧ ∀ (i : Nat) (k v : Value), us[i]? = some k → ws[i]? = some v → ∃ kk, rs[i]? = some (kk, v) ∧ keyIs kk k = true
  | _, _, _, _, [], .nil, r2, e => ⟨[], .nil, by simp, fun i k v hk _ => by simp at hk⟩
  | _, _, _, _, _ :: _, .nil, r2, e => by simp at e
  | _, _, _, _, [], .cons r1 t1, .nil, e => ⟨[], .nil, by simp, fun i k v _ hv => by simp at hv⟩
  | _, _, _, _, _ :: _, .cons r1 t1, .nil, e => by simp at e
  | _, _, _, _, [], .cons r1 t1, .cons r2 t2, e => by simp at e
  | _, _, _, _, kv :: kvs, @Paired.cons _ _ _ x u xs us r1 t1, @Paired.cons _ _ _ y v ys ws r2 t2, e => by
    rw [List.zip_cons_cons, List.map_cons, List.cons.injEq, Prod.mk.injEq] at e
    obtain ⟨⟨ex, ey⟩, e'⟩ := e
    obtain ⟨rs, q1, q2, q3⟩ := kvs_of t1 t2 e'
    have hk : keyIs kv.1 u = true := kV_isK (by rw [← ex]; exact r1)
    refine ⟨(kv.1, v) :: rs, .cons ⟨rfl, by rw [← ey]; exact r2⟩ q1, by rw [List.length_cons, List.length_cons, List.length_cons, q2]; omega, fun i k v' h1 h2 => ?_⟩
    cases i with
    | zero =>
      have e1 : u = k := by simpa using h1
      have e2 : v = v' := by simpa using h2
      subst e1 e2
      exact ⟨kv.1, rfl, hk⟩
    | succ i =>
      obtain ⟨kk, a1, a2⟩ := q3 i k v' (by simpa using h1) (by simpa using h2)
      exact ⟨kk, by simpa using a1, a2⟩
theorem pe_dictZip {a b : Expr} {ta : TA} {p p2 pos pos2 : Pos} (hc : X.calm = true) (hg : Gl X "dict") (hm : X.mg "dict" = none) (hg2 : Gl X "zip") (hm2 : X.mg "zip" = none) (ha : PA X [a, b] ta)
    (hs : starEach [a, b] X.env = (false, eval a X.env) :: starEach [b] X.env := by rfl) (hpl : (backTo pos2 (starEach [b] X.env)).any (·.1) = false := by rfl)
    (na : starEach [.Call (.Name "zip" p2) [a, b] [] pos2] X.env = (false, eval (.Call (.Name "zip" p2) [a, b] [] pos2) X.env) :: starEach [] X.env := by rfl) :
    PE X (.Call (.Name "dict" p) [.Call (.Name "zip" p2) [a, b] [] pos2] [] pos) (tDictZip X.K ta) := by
  refine ⟨fun pins s σ H Q I h => ?_⟩
  refine Call_ (ld_blt I hg hm (show bootBuiltins "dict" = some (.type "dict") by decide +kernel) (PyProof.Rows.callWith_type1 (args_cons (thn (ev_zip hg2 hm2 ha I h (Q := fun v s1 => wpAny (model X.prog X.w) X.A (PySem.call (Value.type "dict") [v]) (EP X pins σ Q) X.xe s1) ?_ hs hpl) fun x s1 q => args_nil q) na) na))
  rintro us s1 vs H1 I1 r ⟨l, t, xs, ys, kvs, rfl, hl, ht, ez, q⟩
  cases r with
  | cons r1 r =>
    cases r with
    | cons r2 r =>
      cases r
      cases r1
      cases r2
      obtain ⟨its, rv, pl, hz⟩ := I1.list hl
      obtain ⟨its2, rv2, pt, hz2⟩ := I1.tuple ht
      obtain ⟨rs, kv, elen, hrs⟩ := kvs_of rv rv2 ez
      have hlen : kvs.length = rs.length := Paired.length kv
      have hsz : kvs.length ≤ sizeLine := by
        have := rv.length
        omega
      refine dict_zip (knd := mixKind X.prog X.w) (kvs := rs) (I1.ok.hd hc) pl.isList (show s1.heap.IsTuple t its2.toArray from pt) (by have := rv.length; simp only [List.size_toArray]; omega) ⟨by simpa using elen, fun i k v ⟨h1, h2⟩ => ?_⟩ fun h' tk D hD hk hDs => ?_
      · obtain ⟨kk, a1, a2⟩ := hrs i k v (by simpa using h1) (by simpa using h2)
        exact ⟨kk, a1, a2⟩
      · have hn := I1.hok.fresh hDs
        have hlm : (mergeK [] kvs).length ≤ sizeLine := by
          have := length_mergeK kvs []
          rw [List.length_nil] at this
          omega
        have hsys : (D == sysModules) = false := by
          rw [beq_eq_false_iff_ne]
          exact Nat.ne_of_gt (Nat.lt_of_lt_of_le I1.big hDs)
        exact ⟨.ref D, upd H1 D (.dK (mergeK [] kvs)), I1.laid (t' := tk) hk hDs (show ObjOk X.prog X.w _ _ _ (.dK (mergeK [] kvs)) from ⟨hlm, hsys, merged [] rs, kv.merge .nil, hD⟩), rfl, q D hn⟩
/-- list(zip(l, t)): a new list of new pairs -/
def tListZip (K : PySem.W.Frag) (ta : TA) : TE := fun σ H Q => ta σ H fun vs H1 => ∃ (l t : Addr) (xs ys : List V), vs = [.ref l, .ref t] ∧ SqL K H1 l xs ∧ SqT K H1 t ys ∧
  ∀ (D : Addr) (Ts : List Addr) (H2 : Hp), Same H1 H2 → H1 D = none → H2 D = some (.lst (Ts.map V.ref)) → Ts.length = min xs.length ys.length →
    (∀ (j : Nat) (T : Addr) (x y : V), Ts[j]? = some T → xs[j]? = some x → ys[j]? = some y → H2 T = some (.tup [x, y])) → Q (.ref D) H2
theorem refs_list : ∀ (vs : List Value), (∀ v ∈ vs, ∃ T : Addr, v = .ref T) → ∃ Ts : List Addr, vs = Ts.map Value.ref
  | [], _ => ⟨[], rfl⟩
  | v :: vs, h => by
    obtain ⟨T, rfl⟩ := h v List.mem_cons_self
    obtain ⟨Ts, e⟩ := refs_list vs fun u hu => h u (List.mem_cons_of_mem _ hu)
    exact ⟨T :: Ts, by rw [e]; rfl⟩
theorem vals_refsA : ∀ Ts : List Addr, Vals (Ts.map V.ref) (Ts.map Value.ref)
  | [] => .nil
  | _ :: Ts => .cons rfl (vals_refsA Ts)
theorem pe_listZip {a b : Expr} {ta : TA} {p p2 pos pos2 : Pos} (hc : X.calm = true) (hg : Gl X "list") (hm : X.mg "list" = none) (hg2 : Gl X "zip") (hm2 : X.mg "zip" = none) (ha : PA X [a, b] ta)
    (hs : starEach [a, b] X.env = (false, eval a X.env) :: starEach [b] X.env := by rfl) (hpl : (backTo pos2 (starEach [b] X.env)).any (·.1) = false := by rfl)
    (na : starEach [.Call (.Name "zip" p2) [a, b] [] pos2] X.env = (false, eval (.Call (.Name "zip" p2) [a, b] [] pos2) X.env) :: starEach [] X.env := by rfl) :
    PE X (.Call (.Name "list" p) [.Call (.Name "zip" p2) [a, b] [] pos2] [] pos) (tListZip X.K ta) := by
  refine ⟨fun pins s σ H Q I h => ?_⟩
  refine Call_ (ld_blt I hg hm (show bootBuiltins "list" = some (.type "list") by decide +kernel) (PyProof.Rows.callWith_type1 (args_cons (thn (ev_zip hg2 hm2 ha I h (Q := fun v s1 => wpAny (model X.prog X.w) X.A (PySem.call (Value.type "list") [v]) (EP X pins σ Q) X.xe s1) ?_ hs hpl) fun x s1 q => args_nil q) na) na))
  rintro us s1 vs H1 I1 r ⟨l, t, xs, ys, rfl, hl, ht, q⟩
  cases r with
  | cons r1 r =>
    cases r with
    | cons r2 r =>
      cases r
      cases r1
      cases r2
      obtain ⟨its, rv, pl, hz⟩ := I1.list hl
      obtain ⟨its2, rv2, pt, hz2⟩ := I1.tuple ht
      have lx := rv.length
      have ly := rv2.length
      refine list_zip (I1.ok.hd hc) pl.isList (show s1.heap.IsTuple t its2.toArray from pt) (by simp only [List.size_toArray]; omega) fun h' tk D acc c hk hDs hD hacc hp => ?_
      have hn := I1.hok.fresh hDs
      obtain ⟨Ts, eT⟩ := refs_list acc.toList fun v hv => by
        obtain ⟨j, hj⟩ := List.mem_iff_getElem?.mp hv
        obtain ⟨T, x, y, ev, _⟩ := hp j v (by rw [← hj, Array.getElem?_toList])
        exact ⟨T, ev⟩
      have eacc : ∀ j, acc[j]? = (Ts[j]?).map Value.ref := fun j => by rw [← Array.getElem?_toList, eT, List.getElem?_map]
      have hTl : Ts.length = min xs.length ys.length := by
        have e1 : acc.toList.length = Ts.length := by rw [eT, List.length_map]
        rw [Array.length_toList, hacc] at e1
        simp only [List.size_toArray] at e1
        omega
      -- which pair stands at b
      have fact : ∀ (j : Nat) (T : Addr) (x y : V), Ts[j]? = some T → xs[j]? = some x → ys[j]? = some y → ∃ u v, RelV x u ∧ RelV y v ∧ IsTupOf2 h' T u v ∧ s1.heap.objs.size ≤ T ∧ T ≠ D := fun j T x y h1 h2 h3 => by
        obtain ⟨T', u, v, ev, g1, g2, g3, g4, g5⟩ := hp j (.ref T) (by rw [eacc, h1]; rfl)
        cases ev
        obtain ⟨u', f1, f2⟩ := rv.get h2
        obtain ⟨v', f3, f4⟩ := rv2.get h3
        have e1 : u' = u := by simpa [f1] using g1
        have e2 : v' = v := by simpa [f3] using g2
        subst e1 e2
        exact ⟨u', v', f2, f4, g3, g4, g5⟩
      let W : Addr → List V → Prop := fun b zs => ∃ (j : Nat) (x y : V), Ts[j]? = some b ∧ xs[j]? = some x ∧ ys[j]? = some y ∧ zs = [x, y]
      have uniq : ∀ b zs zs', W b zs → W b zs' → zs = zs' := by
        rintro b zs zs' ⟨j, x, y, h1, h2, h3, rfl⟩ ⟨j', x', y', h1', h2', h3', rfl⟩
        obtain ⟨u, v, f1, f2, f3, _⟩ := fact j b x y h1 h2 h3
        obtain ⟨u', v', f1', f2', f3', _⟩ := fact j' b x' y' h1' h2' h3'
        have e := f3.symm.trans f3'
        simp only [Option.some.injEq, Obj.mk.injEq, Data.seq.injEq, true_and, and_true] at e
        have e1 : u = u' ∧ v = v' := by simpa using e
        obtain ⟨rfl, rfl⟩ := e1
        rw [f1.inj f1', f2.inj f2']
      let H2 : Hp := fun b => match H1 b with
        | some o => some o
        | none => if b = D then some (.lst (Ts.map V.ref)) else (open Classical in if hw : ∃ zs, W b zs then some (.tup hw.choose) else none)
      have hsame : Same H1 H2 := fun b o e => by
        show (match H1 b with | some o => some o | none => _) = some o
        rw [e]
      have atD : H2 D = some (.lst (Ts.map V.ref)) := by
        show (match H1 D with | some o => some o | none => _) = _
        rw [hn]
        simp only [if_true]
      have atT : ∀ b zs, H1 b = none → b ≠ D → W b zs → H2 b = some (.tup zs) := fun b zs hb hbD hw => by
        show (match H1 b with | some o => some o | none => _) = _
        rw [hb]
        simp only [if_neg hbD]
        have hex : ∃ zs, W b zs := ⟨zs, hw⟩
        rw [dif_pos hex, uniq b _ _ hex.choose_spec hw]
      have off : ∀ b, H1 b = none → b ≠ D → (¬ ∃ zs, W b zs) → H2 b = none := fun b hb hbD hw => by
        show (match H1 b with | some o => some o | none => _) = _
        rw [hb]
        simp only [if_neg hbD]
        rw [dif_neg hw]
      have I2 : Inv X pins σ H2 { s1 with heap := h', toks := tk } := by
        refine inv_news I1 hk hsame (fun b hb hb1 => off b hb1 (fun e => Nat.not_lt_of_le hDs (e ▸ hb)) ?_) fun b o hb1 hb2 => ?_
        · rintro ⟨zs, j, x, y, h1, h2, h3, _⟩
          obtain ⟨_, _, _, _, _, g, _⟩ := fact j b x y h1 h2 h3
          exact Nat.not_lt_of_le g hb
        · by_cases hbD : b = D
          · subst hbD
            rw [atD] at hb2
            cases hb2
            refine ⟨by rw [List.length_map, hTl]; omega, acc.toList, c, ?_, ?_⟩
            · rw [eT]
              exact vals_refsA Ts
            · rw [Array.toArray_toList]
              exact hD
          · by_cases hw : ∃ zs, W b zs
            · obtain ⟨zs, hzs⟩ := hw
              rw [atT b zs hb1 hbD hzs] at hb2
              cases hb2
              obtain ⟨j, x, y, h1, h2, h3, rfl⟩ := hzs
              obtain ⟨u, v, f1, f2, f3, _⟩ := fact j b x y h1 h2 h3
              exact ⟨small_le (by show 2 ≤ 1000000; decide), [u, v], .cons f1 (.cons f2 .nil), ⟨_, f3, rfl, _, rfl⟩⟩
            · rw [off b hb1 hbD hw] at hb2
              cases hb2
      refine ⟨.ref D, H2, I2, rfl, q D Ts H2 hsame hn atD hTl fun j T x y h1 h2 h3 => ?_⟩
      obtain ⟨_, _, _, _, _, g, g'⟩ := fact j T x y h1 h2 h3
      exact atT T [x, y] (I1.hok.fresh g) g' ⟨j, x, y, h1, h2, h3, rfl⟩
end
end Sly

set_option Elab.async false
set_option linter.all false
set_option maxRecDepth 100000
set_option maxHeartbeats 4000000
/-! Walks: outweighs. -/
namespace Sly
open PySem PySem.Spec PyProof.Rows L2
open PySem.W (Datum DatumOrd Tup T3)
theorem names_nodup {l : List Str} (h : l.Pairwise fun a b => a.cps.toList < b.cps.toList) : l.Nodup := h.imp fun {a b} q e => by
  subst e
  exact absurd q (List.lt_irrefl _)
theorem mergeK_nodup : ∀ (l kvs : List (Key × V)), (l.map (·.1)).Nodup → (∀ k ∈ l.map (·.1), valV kvs k = none) → mergeK kvs l = kvs ++ l
  | [], kvs, _, _ => (List.append_nil kvs).symm
  | (k, v) :: r, kvs, h, hk => by
    rw [List.map_cons, List.nodup_cons] at h
    show mergeK (putK kvs k v) r = _
    rw [putK_new v (hk k (by simp)), mergeK_nodup r _ h.2 fun j hj => ?_, List.append_assoc]
    · rfl
    · have hne : ¬ j = k := fun e => h.1 (by rw [← e]; exact hj)
      rw [valV_snoc k j v kvs (hk k (by simp)), if_neg hne]
      exact hk j (by simp at hj ⊢; exact .inr hj)
/-- what the dict of names and values holds -/
def nameKvs {β : Type} (f : β → V) (l : List (Str × β)) : List (Key × V) := l.map fun p => (Sum.inr p.1, f p.2)
theorem valV_names {β : Type} (f : β → V) (x : Str) : ∀ l : List (Str × β), valV (nameKvs f l) (.inr x) = (l.lookup x).map f
  | [] => rfl
  | (y, b) :: r => by
    have ih := valV_names f x r
    show valV ((Sum.inr y, f b) :: nameKvs f r) (.inr x) = _
    by_cases e : x = y
    · subst e
      rw [valV_pos rfl, List.lookup_cons_self]
      rfl
    · rw [valV_neg (fun q => e (Sum.inr.inj q).symm), ih, List.lookup_cons]
      have e' : (x == y) = false := beq_eq_false_iff_ne.mpr e
      rw [e']
theorem merge_names {β : Type} (f : β → V) {l : List (Str × β)} (h : (l.map (·.1)).Nodup) : mergeK [] (nameKvs f l) = nameKvs f l := by
  rw [mergeK_nodup _ _ ?_ (fun _ _ => rfl)]
  · rfl
  · unfold nameKvs
    rw [List.map_map]
    have : (l.map ((fun kv : Key × V => kv.1) ∘ fun p => (Sum.inr p.1, f p.2))) = (l.map (·.1)).map (fun x => (Sum.inr x : Key)) := by
      rw [List.map_map]
      rfl
    rw [this]
    exact List.Pairwise.map _ (fun a b h e => h (Sum.inr.inj e)) h
theorem lookup_some {β : Type} (x : Str) : ∀ (ns : List Str) (bs : List β), ns.length = bs.length → x ∈ ns → ∃ b, (ns.zip bs).lookup x = some b ∧ b ∈ bs
  | [], _, _, hx => by simp at hx
  | n :: ns, [], hl, _ => by simp at hl
  | n :: ns, b :: bs, hl, hx => by
    rw [List.zip_cons_cons, List.lookup_cons]
    by_cases e : x = n
    · subst e
      exact ⟨b, by simp, by simp⟩
    · have e' : (x == n) = false := beq_eq_false_iff_ne.mpr e
      rw [e']
      obtain ⟨c, h1, h2⟩ := lookup_some x ns bs (by simpa using hl) (by simpa [e] using hx)
      exact ⟨c, h1, List.mem_cons_of_mem _ h2⟩
theorem zip_fst {α β : Type} : ∀ (ns : List α) (bs : List β), ns.length = bs.length → (ns.zip bs).map (·.1) = ns
  | [], _, _ => by simp
  | n :: ns, [], h => by simp at h
  | n :: ns, b :: bs, h => by
    rw [List.zip_cons_cons, List.map_cons, zip_fst ns bs (by simpa using h)]
theorem zip_names {β : Type} (f : β → V) : ∀ (ns : List Str) (bs : List β), (ns.map V.str).zip (bs.map f) = (nameKvs f (ns.zip bs)).map fun kv => (kV kv.1, kv.2)
  | [], _ => by simp [nameKvs]
  | n :: ns, [] => by simp [nameKvs]
  | n :: ns, b :: bs => by
    rw [List.map_cons, List.map_cons, List.zip_cons_cons, zip_names f ns bs]
    rfl
section
variable {P : Program} {w : PySem.World} {K : PySem.W.Frag} {mg : Str → Option Value} {base : Heap}
/-- by how much the left side outweighs the right one: outweighs, _law_more -/
def spOut : Sp := fun vs H Q _ => ∃ (v u t : V) (h : Hse) (wd : Wld) (g : Weigh), vs = [v, u, t] ∧ Ho H v h ∧ Ho H u wd ∧ Ho H t g ∧ HseOk h ∧ WldOk h wd ∧ WeighOk h g ∧ ∀ H', Same H H' → Q (.int (outw h wd g)) H'
/-- [d[one] for one in t], one at slot i, d at slot j -/
theorem lc_dget {a : Addr} {us : List V} {xs : List Str} {i j : Nat} {σ : L2.St} {H1 : Hp} {D d : Addr} {kvs : List (Key × V)} {val : Str → Int} {Qd : Hp → Prop} (hD : H1 D = none) (ha : H1 a = some (.tup us)) (hx : HoA H1 us xs) (hn : xs.length ≤ 1000) (hd1 : H1 d = some (.dK kvs)) (hv : ∀ x ∈ xs, valV kvs (.inr x) = some (.int (val x)))
    (ej : ∀ v, ((wipe σ [i]).set i (some v))[j]? = some (some (.ref d))) (ei : ∀ v, ((wipe σ [i]).set i (some v))[i]? = some (some v)) (e1 : ∀ v, wipe ((wipe σ [i]).set i (some v)) [i] = wipe σ [i]) (hd : ∀ H, Same H1 H → Ls H D (xs.map val) → Qd H) :
    ∃ W : Nat → Nat → Hp → Prop, (∃ m, W 0 m (upd H1 D (.lst []))) ∧ ∀ n m H, W n m H →
      ((Itt K a).stop n H ∧ Qd H) ∨ ((Itt K a).go n H ∧ ∃ Nx : Hp → Prop, (∀ H', Nx H' → ∃ m', m' < m ∧ W (n + 1) m' H') ∧ ∀ x H', (Itt K a).yld n H x H' → gName i x (wipe σ [i]) H' fun σ2 H2 => wipe σ2 [i] = wipe σ [i] ∧ tYes σ2 H2 fun b H3 =>
        if b = true then tDGet (tVar j) (tVar i) σ2 H3 fun y H4 => ∃ acc, H4 D = some (.lst acc) ∧ acc.length < sizeLine ∧ Nx (upd H4 D (.lst (acc ++ [y]))) else Nx H3) := by
  refine lc_seq (walk_tup (K := K) (a := a) (xs := us)) hD (fun x => some (val x)) hx (by omega) (fun H s => SqT.of (s _ _ ha)) ?_ ?_
  · intro x v H P P0 hm s hv' hP _
    have ex := ho_str hv'
    subst ex
    refine ⟨e1 _, yes ⟨_, ej _, _, ei _, d, .int (val x), rfl, ?_, ?_⟩⟩
    · have q := DGet.k (k := Sum.inr x) (s _ _ hd1)
      rw [hv x hm] at q
      exact q
    · exact hP _ _ _ (Same.refl H) rfl (Ho.int _)
  · intro H s h
    rw [fm_map] at h
    exact hd H s h
theorem ok_outweighs {f : Addr} {fd : FuncData} {k : Nat} (F : Fun K "outweighs" "outweighs" sOutweighs f fd) (B : Blt mg) : FnOk P w K mg base CX0 (k + 1) f fd ["house", "world", "weighing"] spOut := by
  refine F.ok scOutweighs (fun vs H Q E h => ?_) (fun cdv A outer s H vs Q E hr h => ?_)
  · obtain ⟨v, u, t, h, wd, g, rfl, _⟩ := h
    rfl
  · obtain ⟨v, u, t, h, wd, g, rfl, hv, hu, ht, hk, hw, hg, q⟩ := h
    have nd := scOutweighs.nd
    obtain ⟨a, x, y, rfl, ha, hx, hy⟩ := ho_pair hv
    obtain ⟨ax, xs, rfl, hax, hxs⟩ := ho_tup hx
    obtain ⟨b, x1, y1, rfl, hb, hx1, hy1⟩ := ho_pair hu
    obtain ⟨bx, ws, rfl, hbx, hws⟩ := ho_tup hx1
    obtain ⟨c, u0, u1, u2, rfl, hc, h0, h1, h2⟩ := ho_t3 ht
    obtain ⟨c1, ls, rfl, hc1, hls⟩ := ho_tup h1
    obtain ⟨c2, rs, rfl, hc2, hrs⟩ := ho_tup h2
    refine ⟨_, pss_cons (ps_set (i := 3) nd rfl (.inr rfl) (pe_dictZip rfl (by rfl) B.dict (by rfl) B.zip (pa_cons (pe_lc (own := [("row", 4)]) (g := gName 4) (tt := tYes) (te := tOp (rIxT K) (tVar 4) (tC (.int 0))) rfl nd (pi_tup (pe_ix ix_tup (pv 0) pe_int (fun _ _ => rfl)))
        (blkOk_by (N := nOutweighs) (sc := defScope sOutweighs) (by decide +kernel)) (fun _ _ _ _ _ => pg_name (i := 4) nd rfl (.inl rfl)) (fun _ _ _ _ _ => pts_nil) (fun _ _ _ _ _ => pe_ix ix_tup (pv 4) pe_int (fun _ _ => rfl))) (pa_cons (pe_ix ix_tup (pv 1) pe_int (fun _ _ => rfl)) pa_nil))))
      (pss_one (ps_ret (pe_op op_sub
        (pe_callB (cr_sum rfl) (by rfl) B.sum b_sum (pa_cons (pe_lc (own := [("one", 5)]) (g := gName 5) (tt := tYes) (te := tDGet (tVar 3) (tVar 5)) rfl nd (pi_tup (pe_ix ix_tup (pv 2) pe_int (fun _ _ => rfl)))
          (blkOk_by (N := nOutweighs) (sc := defScope sOutweighs) (by decide +kernel)) (fun _ _ _ _ _ => pg_name (i := 5) nd rfl (.inl rfl)) (fun _ _ _ _ _ => pts_nil) (fun _ _ _ _ _ => pe_dget (hu_of hr) (pv 3) (pv 5) (fun _ _ => rfl))) pa_nil))
        (pe_callB (cr_sum rfl) (by rfl) B.sum b_sum (pa_cons (pe_lc (own := [("one", 5)]) (g := gName 5) (tt := tYes) (te := tDGet (tVar 3) (tVar 5)) rfl nd (pi_tup (pe_ix ix_tup (pv 2) pe_int (fun _ _ => rfl)))
          (blkOk_by (N := nOutweighs) (sc := defScope sOutweighs) (by decide +kernel)) (fun _ _ _ _ _ => pg_name (i := 5) nd rfl (.inl rfl)) (fun _ _ _ _ _ => pts_nil) (fun _ _ _ _ _ => pe_dget (hu_of hr) (pv 3) (pv 5) (fun _ _ => rfl))) pa_nil))))), ?_⟩
    refine ⟨_, rfl, a, _, 0, _, rfl, rfl, SqT.of ha, atI_nat (j := 0) rfl, ax, rfl, ⟨xs, SqT.of hax⟩, fun D hD => lc_row0 hD hax hxs (by have := hk.things; omega) (fun _ => rfl) (fun _ => rfl) fun H1 s1 h1' => ?_⟩
    obtain ⟨ns, e1, g1⟩ := h1'
    have g1' := g1.strs
    subst g1'
    have hwi := hws.ints
    subst hwi
    have hnl : (names h.1.items).length = wd.1.items.length := by
      unfold names
      rw [List.length_map, hw.wl]
    have hnd : (((names h.1.items).zip wd.1.items).map (·.1)).Nodup := by
      rw [zip_fst _ _ hnl]
      exact names_nodup hk.nt
    refine ⟨_, rfl, b, _, 0, _, rfl, rfl, SqT.of (s1 _ _ hb), atI_nat (j := 0) rfl, D, bx, _, _, nameKvs V.int ((names h.1.items).zip wd.1.items), rfl, SqL.of e1, SqT.of (s1 _ _ hbx), zip_names V.int (names h.1.items) wd.1.items, fun d hd => ?_⟩
    rw [merge_names V.int hnd]
    have s2 := Same.trans s1 (Same.new (o := HO.dK (nameKvs V.int ((names h.1.items).zip wd.1.items))) hd)
    have hval : ∀ x ∈ names h.1.items, valV (nameKvs V.int ((names h.1.items).zip wd.1.items)) (.inr x) = some (.int (lookI (names h.1.items) wd.1.items x)) := fun x hx => by
      obtain ⟨c, q1, q2⟩ := lookup_some x _ _ hnl hx
      rw [valV_names]
      unfold lookI
      rw [q1]
      rfl
    have hl : ∀ l : List Str, l.Sublist (names h.1.items) → l.length ≤ 1000 := fun l sl => by
      have e := sl.length_le
      unfold names at e
      rw [List.length_map] at e
      have := hk.things
      omega
    refine ⟨_, rfl, c, _, 1, _, rfl, rfl, SqT.of (s2 _ _ hc), atI_nat (j := 1) rfl, c1, rfl, ⟨ls, SqT.of (s2 _ _ hc1)⟩, fun D1 hD1 => lc_dget hD1 (s2 _ _ hc1) (hls.up s2) (hl _ hg.left) upd_same (fun x hx => hval x (hg.left.subset hx)) (fun _ => rfl) (fun _ => rfl) (fun _ => rfl) fun H3 s3 h3 => ?_⟩
    obtain ⟨v3, e3, g3⟩ := h3
    have s23 := Same.trans s2 s3
    refine ⟨D1, _, rfl, SqL.of (by rw [e3, g3.ints]), ?_⟩
    refine ⟨_, rfl, c, _, 2, _, rfl, rfl, SqT.of (s23 _ _ hc), atI_nat (j := 2) rfl, c2, rfl, ⟨rs, SqT.of (s23 _ _ hc2)⟩, fun D2 hD2 => lc_dget hD2 (s23 _ _ hc2) (hrs.up s23) (hl _ hg.right) (s3 _ _ upd_same) (fun x hx => hval x (hg.right.subset hx)) (fun _ => rfl) (fun _ => rfl) (fun _ => rfl) fun H4 s4 h4 => ?_⟩
    obtain ⟨v4, e4, g4⟩ := h4
    refine ⟨D2, _, rfl, SqL.of (by rw [e4, g4.ints]), _, _, rfl, rfl, ?_⟩
    exact q _ (Same.trans s23 s4)
end
end Sly

set_option Elab.async false
set_option linter.all false
set_option maxRecDepth 100000
set_option maxHeartbeats 4000000
/-! Rules of the layer over typed data: ==, !=, in, sorted. -/
namespace Sly
open PySem PySem.Spec PyProof.Rows L2
open PySem.W (Datum DatumOrd Tup T3 Holds HoldAll)
section
variable {X : Cx} {α : Type} [DecidableEq α] [Datum α]
theorem holds_of {pins : List (Addr × Obj)} {s : Shared} {σ : L2.St} {H : Hp} {v : V} {u : Value} {x : α} (I : Inv X pins σ H s) (h : Dp X.K H v (Datum.toD x)) (r : RelV v u) : Holds s.heap u x := Dp.reads I _ v u h r
/-- x == y, x != y of typed data -/
def rEqT (α : Type) [DecidableEq α] [Datum α] (K : PySem.W.Frag) : R2 := fun x y H Q => ∃ d e : α, Dp K H x (Datum.toD d) ∧ Dp K H y (Datum.toD e) ∧ Q (.bl (decide (d = e))) H
def rNeT (α : Type) [DecidableEq α] [Datum α] (K : PySem.W.Frag) : R2 := fun x y H Q => ∃ d e : α, Dp K H x (Datum.toD d) ∧ Dp K H y (Datum.toD e) ∧ Q (.bl (decide (d ≠ e))) H
theorem op_eqT (hu : X.A.units + 64 < cLine) (hd : Datum.depth α ≤ 60) : OpR X (compareOp .Eq) (rEqT α X.K) := by
  intro pins s σ H x y v u Q I rx ry h
  obtain ⟨d, e, hd', he, q⟩ := h
  exact PySem.W.eq_datum (holds_of I hd' rx) (holds_of I he ry) (by omega) ⟨.bl _, H, I, rfl, q⟩
theorem op_neT (hu : X.A.units + 64 < cLine) (hd : Datum.depth α ≤ 60) : OpR X (compareOp .NotEq) (rNeT α X.K) := by
  intro pins s σ H x y v u Q I rx ry h
  obtain ⟨d, e, hd', he, q⟩ := h
  exact PySem.W.ne_datum (holds_of I hd' rx) (holds_of I he ry) (by omega) ⟨.bl _, H, I, rfl, q⟩
/-- x in l -/
def rInT (α : Type) [DecidableEq α] [Datum α] (K : PySem.W.Frag) : R2 := fun x y H Q => ∃ (d : α) (ds : List α), Dp K H x (Datum.toD d) ∧ Dp K H y (Datum.toD ds) ∧ Q (.bl (decide (d ∈ ds))) H
theorem op_inT (hu : X.A.units + 64 < cLine) (hd : Datum.depth α ≤ 60) : OpR X (compareOp .In) (rInT α X.K) := by
  intro pins s σ H x y v u Q I rx ry h
  obtain ⟨d, ds, hd', he, q⟩ := h
  obtain ⟨l, vs, rfl, hl, hs⟩ := PySem.W.list_of_holds (holds_of I he ry)
  exact PySem.W.in_list_datum hl hs (holds_of I hd' rx) (by omega) ⟨.bl _, H, I, rfl, q⟩
end
end Sly

set_option Elab.async false
set_option linter.all false
set_option maxRecDepth 100000
set_option maxHeartbeats 4000000
/-! Walk: answer. -/
namespace Sly
open PySem PySem.Spec PyProof.Rows L2
open PySem.W (Datum DatumOrd Tup T3)
theorem eqV_str (a b : Str) : eqV (.str a) (.str b) = decide (a = b) := by
  show (a == b) = _
  exact PySem.W.beq_decide a b
theorem decV_str (a b : Str) : decide (V.str a = V.str b) = decide (a = b) := decide_eq_decide.mpr ⟨fun e => V.str.inj e, fun e => by rw [e]⟩
theorem decV_int (a b : Int) : decide (V.int a = V.int b) = decide (a = b) := decide_eq_decide.mpr ⟨fun e => V.int.inj e, fun e => by rw [e]⟩
theorem lookup_at {β : Type} (x : Str) : ∀ (ns : List Str) (bs : List β) (j : Nat) (b : β), ns.Nodup → ns[j]? = some x → bs[j]? = some b → (ns.zip bs).lookup x = some b
  | [], _, _, _, _, h, _ => by simp at h
  | n :: ns, [], j, _, _, _, h => by simp at h
  | n :: ns, c :: bs, 0, b, _, h, h' => by
    have e1 : n = x := by simpa using h
    have e2 : c = b := by simpa using h'
    subst e1 e2
    rw [List.zip_cons_cons, List.lookup_cons_self]
  | n :: ns, c :: bs, j + 1, b, hn, h, h' => by
    have h1 : ns[j]? = some x := by simpa using h
    have h2 : bs[j]? = some b := by simpa using h'
    have hne : ¬ x = n := fun e => (List.nodup_cons.mp hn).1 (e ▸ List.mem_of_getElem? h1)
    rw [List.zip_cons_cons, List.lookup_cons, beq_eq_false_iff_ne.mpr hne]
    exact lookup_at x ns bs j b (List.nodup_cons.mp hn).2 h1 h2
theorem n_leans_lies : ¬ ("leans" : Str) = "lies" := by decide +kernel
theorem n_sticks_lies : ¬ ("sticks" : Str) = "lies" := by decide +kernel
theorem n_sticks_leans : ¬ ("sticks" : Str) = "leans" := by decide +kernel
theorem n_turns_lies : ¬ ("turns" : Str) = "lies" := by decide +kernel
theorem n_turns_leans : ¬ ("turns" : Str) = "leans" := by decide +kernel
theorem n_turns_sticks : ¬ ("turns" : Str) = "sticks" := by decide +kernel
theorem n_echo_lies : ¬ ("echo" : Str) = "lies" := by decide +kernel
theorem n_echo_leans : ¬ ("echo" : Str) = "leans" := by decide +kernel
theorem n_echo_sticks : ¬ ("echo" : Str) = "sticks" := by decide +kernel
theorem n_echo_turns : ¬ ("echo" : Str) = "turns" := by decide +kernel
theorem n_true_lies : ¬ ("true" : Str) = "lies" := by decide +kernel
theorem n_true_leans : ¬ ("true" : Str) = "leans" := by decide +kernel
theorem n_true_sticks : ¬ ("true" : Str) = "sticks" := by decide +kernel
theorem n_true_turns : ¬ ("true" : Str) = "turns" := by decide +kernel
theorem n_true_echo : ¬ ("true" : Str) = "echo" := by decide +kernel
theorem n_lies_leans : ¬ ("lies" : Str) = "leans" := by decide +kernel
theorem n_lies_sticks : ¬ ("lies" : Str) = "sticks" := by decide +kernel
theorem n_lies_turns : ¬ ("lies" : Str) = "turns" := by decide +kernel
theorem n_leans_sticks : ¬ ("leans" : Str) = "sticks" := by decide +kernel
theorem n_leans_turns : ¬ ("leans" : Str) = "turns" := by decide +kernel
theorem n_sticks_turns : ¬ ("sticks" : Str) = "turns" := by decide +kernel
theorem key_at0 (s : Srt) : (s.key.map kV)[0]? = some (.str s.name) := by
  obtain ⟨n, a⟩ := s
  cases a <;> rfl
theorem key_at1 {s : Srt} {k : Int} (h : s.arg = some k) : (s.key.map kV)[1]? = some (.int k) := by
  obtain ⟨n, a⟩ := s
  cases h
  rfl
theorem str_of {a b : Str} (e : decide (V.str a = V.str b) = true) : a = b := V.str.inj (of_decide_eq_true e)
theorem str_not {a b : Str} (e : ¬ decide (V.str a = V.str b) = true) : ¬ a = b := fun q => e (decide_eq_true (congrArg V.str q))
/-- leaning, sticking and turning sorts have a number -/
theorem SrtOk.num {s : Srt} (h : SrtOk s) (e : s.name = "leans" ∨ s.name = "sticks" ∨ s.name = "turns") : ∃ n, s.arg = some n ∧ -9 ≤ n ∧ n ≤ 9 := by
  rcases h with ⟨h, _⟩ | ⟨h, _⟩ | ⟨h, _⟩ | ⟨h, k, e1, e2, e3⟩ | ⟨h, k, e1⟩ | ⟨h, k, e1⟩
  · rw [h] at e
    rcases e with e | e | e
    · exact absurd e n_true_leans
    · exact absurd e n_true_sticks
    · exact absurd e n_true_turns
  · rw [h] at e
    rcases e with e | e | e
    · exact absurd e n_lies_leans
    · exact absurd e n_lies_sticks
    · exact absurd e n_lies_turns
  · rw [h] at e
    rcases e with e | e | e
    · exact absurd e n_echo_leans
    · exact absurd e n_echo_sticks
    · exact absurd e n_echo_turns
  · exact ⟨k, e1, by omega, by omega⟩
  · exact ⟨k, e1⟩
  · exact ⟨k, e1⟩
section
variable {P : Program} {w : PySem.World} {K : PySem.W.Frag} {mg : Str → Option Value} {base : Heap}
def spAnswer : Sp := fun vs H Q _ => ∃ (v u t : V) (p : Addr) (h : Hse) (wd : Wld) (ah : List Weigh) (g : Weigh), vs = [v, u, .ref p, t] ∧ Ho H v h ∧ Ho H u wd ∧ Ls H p ah ∧ Ho H t g ∧ HseOk h ∧ WldOk h wd ∧ WeighOk h g ∧ ah.length ≤ 1000 ∧ (∀ g' ∈ ah, WeighOk h g') ∧
  ∀ H', Same H H' → Q (.int (answer h wd ah g)) H'
theorem ok_answer {f fO fS : Addr} {fd fdO fdS : FuncData} (F : Fun K "answer" "answer" sAnswer f fd) (B : Blt mg) (GO : FnOk P w K mg base CX0 1 fO fdO ["house", "world", "weighing"] spOut) (kO : PySem.W.keepIn K (.ref fO) = true) (bO : Binds K fdO ["house", "world", "weighing"] []) (gO : mg "outweighs" = some (.ref fO))
    (GS : FnOk P w K mg base CX0 1 fS fdS ["number"] spSign) (kS : PySem.W.keepIn K (.ref fS) = true) (bS : Binds K fdS ["number"] []) (gS : mg "sign" = some (.ref fS)) :
    FnOk P w K mg base CX0 2 f fd ["house", "world", "ahead", "weighing"] spAnswer := by
  refine F.ok scAnswer (fun vs H Q E h => ?_) (fun cdv A outer s H vs Q E hr h => ?_)
  · obtain ⟨v, u, t, p, h, wd, ah, g, rfl, _⟩ := h
    rfl
  · obtain ⟨v, u, t, p, h, wd, ah, g, rfl, hv, hu, ⟨as, hp, has⟩, ht, hk, hw, hg, hal, hao, q⟩ := h
    have nd := scAnswer.nd
    obtain ⟨a, x, y, rfl, ha, hx, hy⟩ := ho_pair hv
    obtain ⟨ay, ys, rfl, hay, hys⟩ := ho_tup hy
    obtain ⟨b, x1, y1, rfl, hb, hx1, hy1⟩ := ho_pair hu
    obtain ⟨b1, ss, rfl, hb1, hss⟩ := ho_tup hy1
    obtain ⟨c, u0, u1, u2, rfl, hc, h0, h1, h2⟩ := ho_t3 ht
    have e0 := ho_str h0
    subst e0
    have num : ∀ i : Nat, True := fun _ => trivial
    refine ⟨_, pss_cons (ps_set (i := 4) nd rfl (.inl rfl) (pe_ix ix_tup (pe_ix ix_tup (pv 1) pe_int (fun _ _ => rfl)) (pe_bm PySem.F.plainAttrs_list PySem.F.slot_list_index PySem.F.type_list_index mt_index
        (pe_lc (own := [("row", 7)]) (g := gName 7) (tt := tYes) (te := tOp (rIxT K) (tVar 7) (tC (.int 0))) rfl nd (pi_tup (pe_ix ix_tup (pv 0) pe_int (fun _ _ => rfl)))
        (blkOk_by (N := nAnswer) (sc := defScope sAnswer) (by decide +kernel)) (fun _ _ _ _ _ => pg_name (i := 7) nd rfl (.inl rfl)) (fun _ _ _ _ _ => pts_nil) (fun _ _ _ _ _ => pe_ix ix_tup (pv 7) pe_int (fun _ _ => rfl))) (pa_cons (pe_ix ix_tup (pv 3) pe_int (fun _ _ => rfl)) pa_nil)) (fun _ _ => rfl)))
      (pss_cons (ps_setLc (i := 5) (own := [("one", 8)]) (g := gName 8) (tt := tTest (tOp rEq (tOp (rIxT K) (tVar 8) (tC (.int 0))) (tOp (rIxT K) (tVar 3) (tC (.int 0))))) (te := tVar 8) rfl nd rfl rfl (sw_true rfl rfl rfl (by decide +kernel)) (pi_list (pv 2))
        (blkOk_by (N := nAnswer) (sc := defScope sAnswer) (by decide +kernel)) (fun _ _ _ _ _ => pg_name (i := 8) nd rfl (.inl rfl)) (fun _ _ _ _ _ => pts_one (pt_cmpR op_eq (pe_ix ix_tup (pv 8) pe_int (fun _ _ => rfl)) (pe_ix ix_tup (pv 3) pe_int (fun _ _ => rfl)) (nomark _))) (fun _ _ _ _ _ => pv 8))
      (pss_cons (ps_set (i := 6) nd rfl (.inl rfl) (pe_call GO (hr.mono (by decide)) (by rfl) gO kO bO .nil pass0 (pa_cons (pv 0) (pa_cons (pv 1) (pa_cons (pv 3) pa_nil)))))
      (pss_cons (ps_if (pt_cmpR op_eq (pe_ix ix_tup (pv 4) pe_int (fun _ _ => rfl)) pe_str (nomark _)) (pss_one (ps_ret (pe_op op_sub pe_int (pe_call GS (hr.mono (by decide)) (by rfl) gS kS bS .nil pass0 (pa_cons (pv 6) pa_nil))))) pss_nil)
      (pss_cons (ps_if (pt_cmpR op_eq (pe_ix ix_tup (pv 4) pe_int (fun _ _ => rfl)) pe_str (nomark _)) (pss_one (ps_ret (pe_call GS (hr.mono (by decide)) (by rfl) gS kS bS .nil pass0 (pa_cons (pe_op op_add (pv 6) (pe_ix ix_tup (pv 4) pe_int (fun _ _ => rfl))) pa_nil)))) pss_nil)
      (pss_cons (ps_if (pt_cmpR op_eq (pe_ix ix_tup (pv 4) pe_int (fun _ _ => rfl)) pe_str (nomark _)) (pss_one (ps_ret (pe_ifExp (pt_cmpR op_le (pe_callB call_abs (by rfl) B.abs b_abs (pa_cons (pv 6) pa_nil)) (pe_ix ix_tup (pv 4) pe_int (fun _ _ => rfl)) (nomark _)) pe_int
          (pe_call GS (hr.mono (by decide)) (by rfl) gS kS bS .nil pass0 (pa_cons (pv 6) pa_nil))))) pss_nil)
      (pss_cons (ps_if (pt_cmpR op_eq (pe_ix ix_tup (pv 4) pe_int (fun _ _ => rfl)) pe_str (nomark _)) (pss_one (ps_ret (pe_ifExp (pt_cmpR op_eq (pe_op op_mod (pe_op op_add (pe_callB call_len_seq (by rfl) B.len b_len (pa_cons (pv 5) pa_nil)) (pe_ix ix_tup (pv 4) pe_int (fun _ _ => rfl))) pe_int) pe_int (nomark _))
          (pe_op op_sub pe_int (pe_call GS (hr.mono (by decide)) (by rfl) gS kS bS .nil pass0 (pa_cons (pv 6) pa_nil))) (pe_call GS (hr.mono (by decide)) (by rfl) gS kS bS .nil pass0 (pa_cons (pv 6) pa_nil))))) pss_nil)
      (pss_cons (ps_if (pt_cmpR op_eq (pe_ix ix_tup (pv 4) pe_int (fun _ _ => rfl)) pe_str (nomark _)) (pss_one (ps_ret (pe_ifExp (pt_cmpR (op_neT (α := List Weigh) hr.units (by decide)) (pv 5) (pe_lst pa_nil) (nomark _))
          (pe_call GS (hr.mono (by decide)) (by rfl) gS kS bS .nil pass0 (pa_cons (pe_call GO (hr.mono (by decide)) (by rfl) gO kO bO .nil pass0 (pa_cons (pv 0) (pa_cons (pv 1) (pa_cons (pe_ix ix_list (pv 5) (pe_un un_neg pe_int) (fun _ _ => rfl)) pa_nil)))) pa_nil)) pe_int))) pss_nil)
      (pss_one (ps_ret (pe_call GS (hr.mono (by decide)) (by rfl) gS kS bS .nil pass0 (pa_cons (pv 6) pa_nil))))))))))), ?_⟩
    -- sort
    refine ⟨_, rfl, b, _, 1, _, rfl, rfl, SqT.of hb, atI_nat (j := 1) rfl, ?_⟩
    refine ⟨_, rfl, a, _, 1, _, rfl, rfl, SqT.of ha, atI_nat (j := 1) rfl, ay, rfl, ⟨ys, SqT.of hay⟩, fun D hD => lc_row0 hD hay hys (by have := hk.scales; omega) (fun _ => rfl) (fun _ => rfl) fun H1 s1 h1' => ?_⟩
    obtain ⟨ns, e1, g1⟩ := h1'
    have g1' := g1.strs
    subst g1'
    obtain ⟨j, hj⟩ := List.mem_iff_getElem?.mp hg.scale
    have hnd := names_nodup hk.ns
    have hjl : j < wd.2.items.length := by
      have := (List.getElem?_eq_some_iff.mp hj).1
      unfold names at this
      rw [List.length_map] at this
      rw [hw.sl]
      exact this
    have hsj : wd.2.items[j]? = some wd.2.items[j] := List.getElem?_eq_getElem hjl
    have esort : sortAt h wd g.a = wd.2.items[j] := by
      unfold sortAt
      rw [lookup_at g.a _ _ j _ hnd hj hsj]
      rfl
    refine ⟨.inl ⟨rfl, _, SqL.of e1⟩, _, rfl, c, _, 0, _, rfl, rfl, SqT.of (s1 _ _ hc), atI_nat (j := 0) rfl, ?_⟩
    refine ⟨D, _, _, j, .str g.a, rfl, rfl, SqL.of e1, rfl, flat_strs _, ?_, by rw [eqV_str]; exact decide_eq_true rfl, ?_, ?_⟩
    · rw [List.getElem?_map, show (List.map (fun x => x.1) h.2.items)[j]? = some g.a from hj]
      rfl
    · intro m z' hm hz'
      rw [List.getElem?_map] at hz'
      cases hn : (List.map (fun x => x.1) h.2.items)[m]? with
      | none =>
        rw [hn] at hz'
        cases hz'
      | some n =>
        rw [hn] at hz'
        cases hz'
        rw [eqV_str]
        refine decide_eq_false fun e => ?_
        subst e
        exact absurd (nd_ix hnd hn hj) (Nat.ne_of_lt hm)
    obtain ⟨vj, evj, hvj⟩ := hss.at hsj
    generalize hst : wd.2.items[j] = st at esort hsj hvj
    have hso : SrtOk st := hw.sb st (List.mem_of_getElem? hsj)
    obtain ⟨aj, kj, rfl, haj, rfl⟩ := ho_srt hvj
    refine ⟨b1, _, _, _, rfl, rfl, SqT.of (s1 _ _ hb1), atI_nat evj, ?_⟩
    -- own
    refine ⟨_, rfl, p, rfl, ⟨as, SqL.of (s1 _ _ hp)⟩, fun D2 hD2 => ?_⟩
    refine lc_seq (walk_list (K := K) (a := p) (xs := as)) hD2 (fun one => if decide (one.a = g.a) = true then some one else none) (has.up s1) (by omega) (fun H s => SqL.of (s _ _ (s1 _ _ hp))) ?_ ?_
    · intro one v H2 P1 P0 hm s2 hv2 hP hP0
      obtain ⟨o1, w0, w1, w2, rfl, ho1, k0, k1, k2⟩ := ho_t3 hv2
      have k0' := ho_str k0
      subst k0'
      refine ⟨rfl, _, rfl, o1, _, 0, _, rfl, rfl, SqT.of ho1, atI_nat (j := 0) rfl, _, rfl, c, _, 0, _, rfl, rfl, SqT.of (s2 _ _ (s1 _ _ hc)), atI_nat (j := 0) rfl, rfl, _, rfl, ite2 (fun e => ?_) (fun e => ?_)⟩
      · exact ⟨_, rfl, hP _ _ one (Same.refl _) (if_pos (decide_eq_true (str_of e))) (Ho.t3 ho1 (Ho.str _) k1 k2)⟩
      · exact hP0 _ (Same.refl _) (if_neg (fun q => str_not e (of_decide_eq_true q)))
    intro H2 s2 h2'
    rw [fm_filter] at h2'
    have hown : Ls H2 D2 (ownOf ah g.a) := h2'
    have s12 := Same.trans s1 s2
    -- more
    refine ⟨_, rfl, _, rfl, _, rfl, _, _, _, h, wd, g, rfl, hv.up s12, hu.up s12, ht.up s12, hk, hw, hg, fun H3 s3 => ?_⟩
    have s13 := Same.trans s12 s3
    have ans : answer h wd ah g = ansBy st (ownOf ah g.a).length (outw h wd g) (echoOf h wd (ownOf ah g.a)) := by
      unfold answer
      rw [esort]
    have fin : ∀ H4 r, Same H3 H4 → r = answer h wd ah g → Q (.int r) H4 := fun H4 r s4 e => by
      rw [e]
      exact q H4 (Same.trans s13 s4)
    refine ⟨_, rfl, aj, _, 0, _, rfl, rfl, SqT.of (s13 _ _ haj), atI_nat (key_at0 _), rfl, _, rfl, ite2 (fun e => ?_) (fun n1 => ?_)⟩
    · refine ⟨_, rfl, _, rfl, _, _, rfl, rfl, ?_⟩
      refine fin _ _ (Same.refl _) ?_
      rw [ans]
      unfold ansBy
      rw [if_pos (str_of e)]
    have n1 := str_not n1
    refine ⟨_, rfl, aj, _, 0, _, rfl, rfl, SqT.of (s13 _ _ haj), atI_nat (key_at0 _), rfl, _, rfl, ite2 (fun e => ?_) (fun n2 => ?_)⟩
    · have e := str_of e
      obtain ⟨k, ek, _⟩ := hso.num (.inl e)
      refine ⟨_, rfl, _, rfl, aj, _, 1, _, rfl, rfl, SqT.of (s13 _ _ haj), atI_nat (j := 1) (key_at1 ek), _, _, rfl, rfl, _, rfl, ?_⟩
      refine fin _ _ (Same.refl _) ?_
      rw [ans]
      unfold ansBy
      rw [if_neg n1, if_pos e, ek]
      rfl
    have n2 := str_not n2
    refine ⟨_, rfl, aj, _, 0, _, rfl, rfl, SqT.of (s13 _ _ haj), atI_nat (key_at0 _), rfl, _, rfl, ite2 (fun e => ?_) (fun n3 => ?_)⟩
    · have e := str_of e
      obtain ⟨k, ek, _⟩ := hso.num (.inr (.inl e))
      refine ⟨_, rfl, _, rfl, _, rfl, aj, _, 1, _, rfl, rfl, SqT.of (s13 _ _ haj), atI_nat (j := 1) (key_at1 ek), _, _, rfl, rfl, _, rfl, ite2 (fun e2 => ?_) (fun e2 => ?_)⟩
      · refine fin _ _ (Same.refl _) ?_
        rw [ans]
        unfold ansBy
        rw [if_neg n1, if_neg n2, if_pos e, ek]
        exact (if_pos (of_decide_eq_true e2)).symm
      · refine ⟨_, rfl, _, rfl, ?_⟩
        refine fin _ _ (Same.refl _) ?_
        rw [ans]
        unfold ansBy
        rw [if_neg n1, if_neg n2, if_pos e, ek]
        exact (if_neg (fun q => e2 (decide_eq_true q))).symm
    have n3 := str_not n3
    refine ⟨_, rfl, aj, _, 0, _, rfl, rfl, SqT.of (s13 _ _ haj), atI_nat (key_at0 _), rfl, _, rfl, ite2 (fun e => ?_) (fun n4 => ?_)⟩
    · have e := str_of e
      obtain ⟨k, ek, _⟩ := hso.num (.inr (.inr e))
      obtain ⟨ow, eow, how⟩ := hown.up s3
      have hlen := how.length
      refine ⟨_, rfl, D2, _, rfl, .inl (SqL.of eow), _, rfl, aj, _, 1, _, rfl, rfl, SqT.of (s13 _ _ haj), atI_nat (j := 1) (key_at1 ek), _, _, rfl, rfl, _, _, rfl, rfl, (by show (0 : Int) < 2; decide), rfl, _, rfl, ite2 (fun e2 => ?_) (fun e2 => ?_)⟩
      · refine ⟨_, rfl, _, rfl, _, _, rfl, rfl, ?_⟩
        refine fin _ _ (Same.refl _) ?_
        rw [ans]
        unfold ansBy
        rw [if_neg n1, if_neg n2, if_neg n3, if_pos e, ek]
        have q2 : ((ow.length : Int) + k) % 2 = 1 := V.int.inj (of_decide_eq_true e2)
        rw [hlen] at q2
        exact (if_pos q2).symm
      · refine ⟨_, rfl, _, rfl, ?_⟩
        refine fin _ _ (Same.refl _) ?_
        rw [ans]
        unfold ansBy
        rw [if_neg n1, if_neg n2, if_neg n3, if_pos e, ek]
        refine (if_neg (fun q2 => e2 (decide_eq_true ?_))).symm
        show V.int (((ow.length : Int) + k) % 2) = V.int 1
        rw [hlen]
        exact congrArg V.int q2
    have n4 := str_not n4
    refine ⟨_, rfl, aj, _, 0, _, rfl, rfl, SqT.of (s13 _ _ haj), atI_nat (key_at0 _), rfl, _, rfl, ite2 (fun e => ?_) (fun n5 => ?_)⟩
    · have e := str_of e
      refine ⟨_, rfl, small_le (by show 0 ≤ 1000000; decide), fun l hl => ?_⟩
      have s4 : Same H3 (upd H3 l (.lst [])) := Same.new hl
      have hown4 := (hown.up s3).up s4
      refine ⟨ownOf ah g.a, [], hown4.dp, (Ls.new (xs := ([] : List Weigh)) hl HoA.nil).dp, _, rfl, ite2 (fun e2 => ?_) (fun e2 => ?_)⟩
      · have hne : ownOf ah g.a ≠ [] := of_decide_eq_true e2
        obtain ⟨ini, last, elast⟩ : ∃ ini last, ownOf ah g.a = ini ++ [last] := by
          rcases List.eq_nil_or_concat (ownOf ah g.a) with e | ⟨i, l, e⟩
          · exact absurd e hne
          · exact ⟨i, l, by rw [e, List.concat_eq_append]⟩
        obtain ⟨ow, eow, how⟩ := hown4
        have hlm : last ∈ ah := by
          have : last ∈ ownOf ah g.a := by rw [elast]; simp
          exact (List.mem_filter.mp this).1
        have hat : ∃ vl, atI ow (-1) = some vl ∧ Ho (upd H3 l (.lst [])) vl last := by
          have hl2 : (ownOf ah g.a)[ini.length]? = some last := by rw [elast]; simp
          obtain ⟨vl, g1, g2⟩ := how.at hl2
          have hwl : ow.length = ini.length + 1 := by rw [how.length, elast]; simp
          have : ow = ow.dropLast ++ [vl] := by
            obtain ⟨i0, l0, e0⟩ : ∃ i l, ow = i ++ [l] := by
              rcases List.eq_nil_or_concat ow with e | ⟨i, l, e⟩
              · rw [e] at hwl
                cases hwl
              · exact ⟨i, l, by rw [e, List.concat_eq_append]⟩
            rw [e0] at g1 hwl
            rw [List.length_append, List.length_singleton] at hwl
            have : i0.length = ini.length := by omega
            rw [← this] at g1
            have : l0 = vl := by simpa using g1
            rw [e0, this]
            simp
          exact ⟨vl, by rw [this]; exact atI_last _ _, g2⟩
        obtain ⟨vl, g1, g2⟩ := hat
        have s14 := Same.trans s13 s4
        refine ⟨_, rfl, _, rfl, _, rfl, 1, rfl, D2, _, -1, _, rfl, rfl, SqL.of eow, g1, ?_⟩
        refine ⟨_, _, _, h, wd, last, rfl, hv.up s14, hu.up s14, g2, hk, hw, hao last hlm, fun H5 s5 => ⟨_, rfl, ?_⟩⟩
        refine fin _ _ (Same.trans s4 s5) ?_
        rw [ans]
        unfold ansBy
        rw [if_neg n1, if_neg n2, if_neg n3, if_neg n4, if_pos e]
        unfold echoOf
        rw [elast, List.getLast?_concat]
      · have hne : ownOf ah g.a = [] := Decidable.of_not_not (fun z => e2 (decide_eq_true z))
        refine fin _ _ s4 ?_
        rw [ans]
        unfold ansBy
        rw [if_neg n1, if_neg n2, if_neg n3, if_neg n4, if_pos e]
        unfold echoOf
        rw [hne]
        rfl
    have n5 := str_not n5
    refine ⟨_, rfl, _, rfl, ?_⟩
    refine fin _ _ (Same.refl _) ?_
    rw [ans]
    unfold ansBy
    rw [if_neg n1, if_neg n2, if_neg n3, if_neg n4, if_neg n5]
end
end Sly

set_option Elab.async false
set_option linter.all false
set_option maxRecDepth 100000
set_option maxHeartbeats 4000000
/-! Walks: tells, is_pair, is_seen, need_seen. -/
namespace Sly
open PySem PySem.Spec PyProof.Rows L2
open PySem.W (Datum DatumOrd Tup T3)
theorem cut_take {xs : List V} {i : Nat} (h : i ≤ xs.length) : cutV xs none (some (i : Int)) = xs.take i := by
  unfold cutV
  rw [HT.sIx_nat, HT.sIx_none, Nat.min_eq_left h, List.drop_zero, Nat.sub_zero]
section
variable {P : Program} {w : PySem.World} {K : PySem.W.Frag} {mg : Str → Option Value} {base : Heap}
def spTells : Sp := fun vs H Q _ => ∃ (v u : V) (p : Addr) (h : Hse) (wd : Wld) (row : List Weigh), vs = [v, u, .ref p] ∧ Ho H v h ∧ Ho H u wd ∧ Ls H p row ∧ HseOk h ∧ WldOk h wd ∧ RowOk h row ∧
  ∀ q H', Same H H' → H q = none → Ls H' q (tellsOf h wd row) → Q (.ref q) H'
theorem ok_tells {f fA : Addr} {fd fdA : FuncData} (F : Fun K "tells" "tells" sTells f fd) (B : Blt mg) (GA : FnOk P w K mg base CX0 2 fA fdA ["house", "world", "ahead", "weighing"] spAnswer) (kA : PySem.W.keepIn K (.ref fA) = true) (bA : Binds K fdA ["house", "world", "ahead", "weighing"] []) (gA : mg "answer" = some (.ref fA)) :
    FnOk P w K mg base CX0 3 f fd ["house", "world", "row"] spTells := by
  refine F.ok scTells (fun vs H Q E h => ?_) (fun cdv A outer s H vs Q E hr h => ?_)
  · obtain ⟨v, u, p, h, wd, row, rfl, _⟩ := h
    rfl
  · obtain ⟨v, u, p, h, wd, row, rfl, hv, hu, ⟨us, hp, hus⟩, hk, hw, hro, q⟩ := h
    have nd := scTells.nd
    have hul : us.length = row.length := hus.length
    have hrl := hro.1
    refine ⟨_, pss_one (ps_ret (pe_lc (own := [("at", 3), ("weighing", 4)]) (g := gTup K 2 (gCons (gName 3) (gCons (gName 4) gNil))) (tt := tYes)
      (te := tCall spAnswer [] E0 (tCons (tVar 0) (tCons (tVar 1) (tCons (tSl (rSlL K) (tVar 2) tNoPart (tPart (tVar 3))) (tCons (tVar 4) tNil))))) rfl nd (pi_enum (by rfl) B.enumerate (pa_cons (pv 2) pa_nil))
      (blkOk_by (N := nTells) (sc := defScope sTells) (by decide +kernel)) (fun _ _ _ _ _ => pg_tup rfl (pgs_cons (pg_name (i := 3) nd rfl (.inl rfl)) (pgs_cons (pg_name (i := 4) nd rfl (.inl rfl)) pgs_nil))) (fun _ _ _ _ _ => pts_nil)
      (fun _ _ _ _ _ => pe_call GA hr (by rfl) gA kA bA .nil pass0 (pa_cons (pv 0) (pa_cons (pv 1) (pa_cons (pe_slice sl_list (pv 2) po_none (po_some (pv 3))) (pa_cons (pv 4) pa_nil))))))), ?_⟩
    refine ⟨_, rfl, p, us, rfl, SqL.of hp, fun D hD => ?_⟩
    refine lc_data (walk_enum (K := K) (a := p) (xs := us)) hD (fun i => row[i]?.bind fun g => some (answer h wd (row.take i) g)) (by omega) (fun H s => SqL.of (s _ _ hp)) ?_ ?_
    · rintro i x H2 H3 P1 P0 hi s2 ⟨T, x1, x2, rfl, nT, rfl, e1, e2⟩ hP _
      cases e1
      have e2' : us[i]? = some x2 := e2
      obtain ⟨g, eg, hg⟩ := (hus.up s2).back e2'
      have s3 : Same H2 (upd H2 T (.tup [.int (i : Nat), x2])) := Same.new nT
      have s23 := Same.trans s2 s3
      refine ⟨T, _, rfl, SqT.of upd_same, rfl, _, _, rfl, _, _, rfl, rfl, rfl, yes ?_⟩
      refine ⟨_, rfl, _, rfl, _, rfl, _, rfl, _, rfl, p, us, rfl, SqL.of (s23 _ _ hp), fun l hl => ?_⟩
      rw [cut_take (by omega)]
      have s4 := Same.new (o := HO.lst (us.take i)) hl
      have s34 := Same.trans s3 s4
      refine ⟨_, rfl, _, _, _, l, h, wd, row.take i, g, rfl, (hv.up s2).up s34, (hu.up s2).up s34, ⟨_, upd_same, (((hus.take i).up s2).up s34)⟩, hg.up s34, hk, hw, hro.2 g (List.mem_of_getElem? eg), by rw [List.length_take]; omega, fun g' hg' => hro.2 g' (List.mem_of_mem_take hg'), fun H5 s5 => ?_⟩
      refine hP _ _ (answer h wd (row.take i) g) (Same.trans s34 s5) ?_ (Ho.int _)
      show row[i]?.bind _ = _
      rw [eg]
      rfl
    · intro H2 s2 h2
      rw [hul] at h2
      exact q D H2 s2 hD h2
/-! ### is_pair -/
def spPair : Sp := fun vs H Q _ => ∃ (v t : V) (h : Hse) (p : Told), vs = [v, t] ∧ Ho H v h ∧ Ho H t p ∧ HseOk h ∧ WeighOk h p.1 ∧ -1 ≤ p.2 ∧ p.2 ≤ 1 ∧ ∀ H', Same H H' → Q (.bl true) H'
theorem ok_pair {f fR fW : Addr} {fd fdR fdW : FuncData} (F : Fun K "is_pair" "is_pair" sIsPair f fd) (B : Blt mg) (GR : FnOk P w K mg base CX0 3 fR fdR ["house", "thing"] spWeighing) (kR : PySem.W.keepIn K (.ref fR) = true) (bR : Binds K fdR ["house", "thing"] []) (gR : mg "is_weighing" = some (.ref fR))
    (GW : FnOk P w K mg base CX0 1 fW fdW ["thing", "low", "high"] spWithin) (kW : PySem.W.keepIn K (.ref fW) = true) (bW : Binds K fdW ["thing", "low", "high"] []) (gW : mg "is_within" = some (.ref fW)) :
    FnOk P w K mg base CX0 4 f fd ["house", "thing"] spPair := by
  refine F.ok scIsPair (fun vs H Q E h => ?_) (fun cdv A outer s H vs Q E hr h => ?_)
  · obtain ⟨v, t, h, p, rfl, _⟩ := h
    rfl
  · obtain ⟨v, t, h, p, rfl, hv, ht, hk, hg, h1, h2, q⟩ := h
    obtain ⟨a, x, y, rfl, ha, hx, hy⟩ := ho_pair ht
    have ey := ho_int hy
    subst ey
    refine ⟨_, pss_cons (ps_if (PW.pt (pw_or (pt_not (pt_val (pe_callB call_isi (by rfl) B.isi b_isi (pa_cons (pv 1) (pa_cons (pe_bltn (v := .ty "tuple") (by rfl) B.tuple b_tuple rfl) pa_nil)))))
        (pw_or1 (pt_cmpR op_ne (pe_callB call_len_seq (by rfl) B.len b_len (pa_cons (pv 1) pa_nil)) pe_int (nomark _))))) (pss_one (ps_ret pe_bl)) pss_nil)
      (pss_one (ps_ret (pe_and (pe_call GR hr (by rfl) gR kR bR .nil pass0 (pa_cons (pv 0) (pa_cons (pe_ix ix_tup (pv 1) pe_int (fun _ _ => rfl)) pa_nil)))
        (pe_one (pe_call GW (hr.mono (by decide)) (by rfl) gW kW bW .nil pass0 (pa_cons (pe_ix ix_tup (pv 1) pe_int (fun _ _ => rfl)) (pa_cons (pe_un un_neg pe_int) (pa_cons pe_int pa_nil)))))))), ?_⟩
    refine ⟨_, rfl, _, _, _, _, true, rfl, .ty _, .base (.tup ha), k_tt, true, rfl, iteF ?_⟩
    refine ⟨_, rfl, a, _, rfl, .inr (SqT.of ha), rfl, _, rfl, iteF' rfl ?_⟩
    refine ⟨_, rfl, _, rfl, a, _, 0, _, rfl, rfl, SqT.of ha, atI_nat (j := 0) rfl, ?_⟩
    refine ⟨_, _, h, p.1, rfl, hv, hx, hk, hg, fun H1 s1 => ⟨true, rfl, iteT ?_⟩⟩
    refine ⟨_, rfl, a, _, 1, _, rfl, rfl, SqT.of (s1 _ _ ha), atI_nat (j := 1) rfl, 1, rfl, ?_⟩
    exact ⟨p.2, -1, 1, rfl, h1, h2, q _ s1⟩
/-! ### is_seen, need_seen -/
def spSeen : Sp := fun vs H Q _ => ∃ (v : V) (p : Addr) (h : Hse) (seen : List Told), vs = [v, .ref p] ∧ Ho H v h ∧ Ls H p seen ∧ HseOk h ∧ SeenOk h seen ∧ ∀ H', Same H H' → Q (.bl true) H'
theorem ok_seen {f fR : Addr} {fd fdR : FuncData} {tk : Tok} (F : Fun K "is_seen" "is_seen" sIsSeen f fd) (B : Blt mg) (gL : mg "LONGEST" = some (.int 12 tk)) (GR : FnOk P w K mg base CX0 4 fR fdR ["house", "thing"] spPair) (kR : PySem.W.keepIn K (.ref fR) = true) (bR : Binds K fdR ["house", "thing"] []) (gR : mg "is_pair" = some (.ref fR)) :
    FnOk P w K mg base CX0 5 f fd ["house", "thing"] spSeen := by
  refine F.ok scIsSeen (fun vs H Q E h => ?_) (fun cdv A outer s H vs Q E hr h => ?_)
  · obtain ⟨v, p, h, seen, rfl, _⟩ := h
    rfl
  · obtain ⟨v, p, h, seen, rfl, hv, ⟨us, hp, hus⟩, hk, hs, q⟩ := h
    have nd := scIsSeen.nd
    have hul : us.length = seen.length := hus.length
    have hsl := hs.1
    refine ⟨_, pss_one (ps_ret (pe_and (pe_callB call_isi (by rfl) B.isi b_isi (pa_cons (pv 1) (pa_cons (pe_bltn (v := .ty "list") (by rfl) B.list b_list rfl) pa_nil)))
      (pe_and (pe_cmpR op_le (pe_callB call_len_seq (by rfl) B.len b_len (pa_cons (pv 1) pa_nil)) (pe_glob (v := .int 12) rfl gL ⟨_, rfl⟩) (nomark _))
      (pe_one (pe_callB (cr_all rfl) (by rfl) B.all b_all (pa_cons (pe_lc (own := [("one", 2)]) (g := gName 2) (tt := tYes) (te := tCall spPair [] E0 (tCons (tVar 0) (tCons (tVar 2) tNil))) rfl nd (pi_list (pv 1))
        (blkOk_by (N := nIsSeen) (sc := defScope sIsSeen) (by decide +kernel)) (fun _ _ _ _ _ => pg_name (i := 2) nd rfl (.inl rfl)) (fun _ _ _ _ _ => pts_nil)
        (fun _ _ _ _ _ => pe_call GR hr (by rfl) gR kR bR .nil pass0 (pa_cons (pv 0) (pa_cons (pv 2) pa_nil)))) pa_nil)))))), ?_⟩
    refine ⟨_, rfl, _, _, _, _, true, rfl, .ty _, .base (.lst hp), k_ll, true, rfl, iteT ?_⟩
    refine ⟨_, rfl, p, us, rfl, .inl (SqL.of hp), _, _, rfl, rfl, true, congrArg V.bl (decide_eq_true (by omega)), iteT ?_⟩
    refine ⟨_, rfl, p, rfl, ⟨us, SqL.of hp⟩, fun D hD => ?_⟩
    refine lc_seq (walk_list (K := K) (a := p) (xs := us)) hD (fun _ => some true) hus (by omega) (fun H s => SqL.of (s _ _ hp)) ?_ ?_
    · intro z u H2 P1 P0 hz s2 hv2 hP _
      obtain ⟨w1, w2, w3⟩ := hs.2 z hz
      refine ⟨rfl, yes ⟨_, rfl, _, rfl, _, _, h, z, rfl, hv.up s2, hv2, hk, w1, w2, w3, fun H3 s3 => ?_⟩⟩
      exact hP _ _ true s3 rfl (Ho.bl true)
    · rintro H3 s3 ⟨bs, e3, g3⟩
      refine ⟨D, _, rfl, SqL.of (by rw [e3, g3.bls]), ?_⟩
      rw [all_true]
      exact q _ s3
def spNeed : Sp := fun vs H Q _ => ∃ (v : V) (p : Addr) (h : Hse) (seen : List Told), vs = [v, .ref p] ∧ Ho H v h ∧ Ls H p seen ∧ HseOk h ∧ SeenOk h seen ∧ ∀ H', Same H H' → Q .non H'
theorem ok_need {f fR : Addr} {fd fdR : FuncData} (F : Fun K "need_seen" "need_seen" sNeedSeen f fd) (GR : FnOk P w K mg base CX0 5 fR fdR ["house", "thing"] spSeen) (kR : PySem.W.keepIn K (.ref fR) = true) (bR : Binds K fdR ["house", "thing"] []) (gR : mg "is_seen" = some (.ref fR)) :
    FnOk P w K mg base CX0 6 f fd ["house", "seen"] spNeed := by
  refine F.ok scNeedSeen (fun vs H Q E h => ?_) (fun cdv A outer s H vs Q E hr h => ?_)
  · obtain ⟨v, p, h, seen, rfl, _⟩ := h
    rfl
  · obtain ⟨v, p, h, seen, rfl, hv, hp, hk, hs, q⟩ := h
    refine ⟨_, pss_one (ps_if (pt_not (pt_val (pe_call GR hr (by rfl) gR kR bR .nil pass0 (pa_cons (pv 0) (pa_cons (pv 1) pa_nil))))) pss_never pss_nil), ?_⟩
    exact ⟨_, rfl, _, rfl, _, p, h, seen, rfl, hv, hp, hk, hs, fun H1 s1 => ⟨true, rfl, iteF (q H1 s1)⟩⟩
end
end Sly

set_option Elab.async false
set_option linter.all false
set_option maxRecDepth 100000
set_option maxHeartbeats 4000000
/-! enumerate(tuple). -/
namespace Sly
open PySem PySem.Spec PyProof.Rows L2
open Sem (wp)
set_option maxHeartbeats 4000000 in
theorem meets_enumerate_newT {v : Value} {o : Obj} {H : Heap → Prop} (B : Begins v o H) :
    Meets (Builtin.«enumerate.__new__» ⟨[.type "enumerate", v], []⟩) (fun _ R s => H s.heap ∧
      R (.ok (.ret (.ref (s.heap.push o).objs.size))) { s with heap := (s.heap.push o).push { cls := .type "enumerate", data := .fields #[.none, .bool false, .ref s.heap.objs.size, rawInt 0, .none, .none] } }) :=
  .of_wp fun prog w A R s h => by
    obtain ⟨hp, g, d, tk, os⟩ := s; obtain ⟨h1, h⟩ := h
    have hsub := sub_enumerate
    have q1 : ∀ {A' : Around} {E : Value → Shared → Prop} {Q : Value → Shared → Prop}, Q (.ref hp.objs.size) ⟨hp.push o, g, d, tk, os⟩ → wpAny (model prog w) A' (pyIter v) Q E ⟨hp, g, d, tk, os⟩ :=
      fun q => B.iter prog w _ _ ⟨hp, g, d, tk, os⟩ _ h1 q
    wp_walk using q1
    refine wpAny_stack_any fun st => wpAny_pure ?_
    split
    · rename_i c _ _ _ _ _
      cases (c == Value.type "enumerate")
      · wp_walk using q1
        exact ⟨_, rfl, h⟩
      · wp_walk using q1
        exact ⟨_, rfl, h⟩
    · wp_walk using q1
      exact ⟨_, rfl, h⟩
theorem call_enumerate_tuple {prog : Program} {w : PySem.World} {A : Around} {E : Value → Shared → Prop} {s : Shared} {l : Addr} {items : Array Value} {Q : Value → Shared → Prop} (hL : s.heap.IsTuple l items)
    (h : ∀ h', IsEnum h' (s.heap.objs.size + 1) s.heap.objs.size 0 .none → h'.IsTupleIter s.heap.objs.size l 0 → h'.objs.size = s.heap.objs.size + 2 →
      (∀ b o, s.heap.get? b = some o → h'.get? b = some o) → Q (.ref (s.heap.objs.size + 1)) { s with heap := h' }) :
    wpAny (model prog w) A (call (.type "enumerate") [.ref l]) Q E s := by
  refine callType_new F.called_enumerate (by decide) (F.typeCall_enumerate_1 _) (F.newCall_enumerate_1 _) (fun obj => F.args_object_init_2 obj _) F.entry_enumerate_new
    (meets_enumerate_newT (begins_tuple l items)) ⟨hL, ?_⟩
  have hz : (s.heap.push { cls := .type "tuple_iterator", data := .fields #[.ref l, .int 0 0] }).objs.size = s.heap.objs.size + 1 := Heap.size_push ..
  show _ ∧ _
  rw [hz]
  have he : IsEnum ((s.heap.push { cls := .type "tuple_iterator", data := .fields #[.ref l, .int 0 0] }).push
      { cls := .type "enumerate", data := .fields #[.none, .bool false, .ref s.heap.objs.size, rawInt 0, .none, .none] }) (s.heap.objs.size + 1) s.heap.objs.size 0 .none := by
    have := Heap.get?_push_size (s.heap.push { cls := .type "tuple_iterator", data := .fields #[.ref l, .int 0 0] })
      (o := { cls := .type "enumerate", data := .fields #[.none, .bool false, .ref s.heap.objs.size, rawInt 0, .none, .none] }) rfl
    rw [hz] at this; exact this
  refine ⟨⟨_, he, rfl⟩, h _ he ⟨_, Heap.get?_push_of_some _ (Heap.get?_push_size _ rfl), rfl, rfl⟩ (by rw [Heap.size_push, hz]) fun b o x => Heap.get?_push_of_some _ (Heap.get?_push_of_some _ x)⟩
/-- the tuple at a as it stands at each turn, each item in a new pair -/
def IteT (K : PySem.W.Frag) (a : Addr) : It :=
  ⟨fun i H => ∃ (xs : List V) (x : V), SqT K H a xs ∧ xs[i]? = some x, fun i H v H' => ∃ T x, v = .ref T ∧ H T = none ∧ H' = upd H T (.tup [.int (i : Nat), x]) ∧ ∀ xs, SqT K H a xs → xs[i]? = some x, fun i H => ∃ xs : List V, SqT K H a xs ∧ xs.length = i⟩
theorem turn_enumT {P : Program} {w : PySem.World} {K : PySem.W.Frag} {elts : List Expr} {kk : Nat} {tpos : Pos} (a e it : Addr) :
    Turn P w K (.Tuple elts kk tpos) (IteT K a) [e, it] e (fun i h => (∃ old, IsEnum h e it ((i : Nat) : Int) old) ∧ h.IsTupleIter it a i ∧ e ≠ it) where
  mem := by simp
  obj := fun i h st b hb => by
    obtain ⟨⟨old, he⟩, ⟨o, ho, hc, hd⟩, _⟩ := st
    have e' : b = e ∨ b = it := by simpa using hb
    rcases e' with z | z
    · rw [z]; exact ⟨_, he, fun v q => nomatch q⟩
    · rw [z]; exact ⟨o, ho, fun v q => by rw [hd] at q; cases q⟩
  keep := fun i h h' st k => let ⟨⟨old, he⟩, hi, hne⟩ := st; ⟨⟨old, k e (by simp) _ he⟩, hi.at fun o q => k it (by simp) o q, hne⟩
  item := by
    intro X hP hw hK hc i pins s σ H E I hf st hg
    subst hP hw hK
    obtain ⟨⟨old, he⟩, hit, hne⟩ := st
    obtain ⟨xs, x, hq, hx⟩ := hg
    obtain ⟨its, rv, p, hz⟩ := I.tuple hq
    obtain ⟨u, hu, ru⟩ := rv.get hx
    have hel : e < s.heap.objs.size := Heap.lt_size he
    have hil : it < s.heap.objs.size := by obtain ⟨_, q, _⟩ := hit; exact Heap.lt_size q
    have pt : s.heap.IsTuple a its.toArray := p
    have hai : a ≠ it := fun z => by
      obtain ⟨o, ho, c1, _⟩ := pt
      obtain ⟨o2, ho2, c2, _⟩ := hit
      rw [z, ho2] at ho
      cases ho
      rw [c2] at c1
      exact absurd c1 (by decide)
    have hae : e ≠ a := fun z => by
      obtain ⟨o, ho, c1, _⟩ := pt
      have he' := he
      unfold IsEnum at he'
      rw [z, ho] at he'
      cases he'
      exact absurd (show Value.type "enumerate" = Value.type "tuple" from c1) (by decide)
    refine wpAny_pyNext_enum_itemC (Draws.tuple (A := X.A.in1) (I.ok.hd hc) it a hai its.toArray) he ⟨hit, pt⟩ (by have := rv.length; have := List.getElem?_eq_some_iff.mp hx; obtain ⟨h1, _⟩ := this; simp; omega) hne (fun z => by
      rcases List.mem_cons.mp z with z | z
      · exact hne z
      · exact hae (List.mem_singleton.mp z)) fun u' h' tk hpu ho st' hT hsz hk => ?_
    have eu : u' = u := by
      have hpu' : its.toArray[i]? = some u' := hpu
      rw [List.getElem?_toArray, hu] at hpu'
      exact (Option.some.inj hpu').symm
    subst eu
    refine ⟨_, rfl, wpAny_letOwnedTupleGo_enum (s := { s with heap := h', toks := tk + 1 }) ho fun h'' he' sb => ?_⟩
    have hT2 : h''.get? s.heap.objs.size = some { cls := .type "tuple", data := .seq #[.int i tk, u'] } := (sb.2 _ (Nat.ne_of_gt hel)).trans hT
    have new : ObjOk X.prog X.w (upd H s.heap.objs.size (.tup [.int (i : Nat), x])) h'' s.heap.objs.size (.tup [.int (i : Nat), x]) :=
      ⟨by show 2 ≤ sizeLine; decide, [.int i tk, u'], .cons ⟨_, rfl⟩ (.cons ru .nil), ⟨_, hT2, rfl, _, rfl⟩⟩
    have I1 : Inv X pins σ (upd H s.heap.objs.size (.tup [.int (i : Nat), x])) { s with heap := h'', toks := tk + 1 } :=
      I.turnedNew (ch := [e, it]) (fun b ob hb q => (sb.2 b (fun z => hb (by simp [z]))).trans (hk b ob (fun z => hb (by simp [z])) (fun z => hb (by simp [z])) q)) hf (Nat.le_refl _) new
    refine ⟨.ref s.heap.objs.size, _, I1, rfl, ⟨_, x, rfl, I.hok.fresh (Nat.le_refl _), rfl, fun ys hy => by rw [I.tuple_inj hy hq]; exact hx⟩, ⟨⟨u', ?_⟩, st'.1.at fun o q => (sb.2 it (Ne.symm hne)).trans q, hne⟩, fun b hb => ?_⟩
    · have e1 : ((i + 1 : Nat) : Int) = (i : Int) + 1 := by omega
      rw [e1]; exact he'
    · have hb' : b < s.heap.objs.size := by
        have e' : b = e ∨ b = it := by simpa using hb
        rcases e' with z | z
        · rw [z]; exact hel
        · rw [z]; exact hil
      rw [upd_ne (Nat.ne_of_lt hb')]
      exact (hf b hb).1
  done := by
    intro X hP hw hK hc i pins s σ H E I hf st hg
    subst hP hw hK
    obtain ⟨⟨old, he⟩, hit, hne⟩ := st
    obtain ⟨xs, hq, hx⟩ := hg
    obtain ⟨its, rv, p, hz⟩ := I.tuple hq
    obtain ⟨f0, f1, f2, f3, f4, f5⟩ := hf it (by simp)
    have hl := rv.length
    have pt : s.heap.IsTuple a its.toArray := p
    have hai : a ≠ it := fun z => by
      obtain ⟨o, ho, c1, _⟩ := pt
      obtain ⟨o2, ho2, c2, _⟩ := hit
      rw [z, ho2] at ho
      cases ho
      rw [c2] at c1
      exact absurd c1 (by decide)
    have esz : i = its.toArray.size := by simp; omega
    subst esz
    exact wpAny_pyNext_enum_endD (Draws.tuple (A := X.A.in1) (I.ok.hd hc) it a hai its.toArray) he ⟨hit, pt⟩ fun h' eb => ⟨rfl, I.turned (t' := s.toks) (fun b o hb q => eb b o hb q) f0 f1 f3 f4 f5⟩
  self := fun A i s Q E st h => let ⟨⟨_, he⟩, _⟩ := st; wpAny_pyIter_enum he h
def iEnumT (K : PySem.W.Frag) (ta : TA) : TI := fun σ H R => ta σ H fun vs H1 => ∃ a xs, vs = [.ref a] ∧ SqT K H1 a xs ∧ R (IteT K a) H1
theorem pi_enumT {X : Cx} {e : Expr} {ta : TA} {p pos tpos : Pos} {elts : List Expr} {kk : Nat} (hg : Gl X "enumerate") (hm : X.mg "enumerate" = none) (ha : PA X [e] ta) (hs : starEach [e] X.env = [(false, eval e X.env)] := by rfl) :
    PI X (.Tuple elts kk tpos) (.Call (.Name "enumerate" p) [e] [] pos) (iEnumT X.K ta) := by
  refine ⟨fun pins s σ H R I h => ?_⟩
  refine Call_ (ld_blt I hg hm boot_enumerate (PyProof.Rows.callWith_type1 (thn (ha.run pos pins s σ H _ I h) fun us s1 ⟨vs, H1, I1, r1, q1⟩ => ?_) hs rfl))
  obtain ⟨a, xs, ex, hq, q⟩ := q1
  subst ex
  cases r1 with
  | cons r rr =>
    cases rr
    cases r
    obtain ⟨its, rv, p', hz⟩ := I1.tuple hq
    refine call_enumerate_tuple (items := its.toArray) p' fun h' he hit hsz hk => wpAny_pyIter_enum he ?_
    have I2 : Inv X pins σ H1 { s1 with heap := h' } := I1.kept (t' := s1.toks) hk
    refine ⟨s1.heap.objs.size + 1, [s1.heap.objs.size + 1, s1.heap.objs.size], _, _, H1, rfl, I2, turn_enumT a (s1.heap.objs.size + 1) s1.heap.objs.size, ⟨⟨.none, he⟩, hit, Nat.succ_ne_self _⟩, fun b hb => ?_, q⟩
    have e' : b = s1.heap.objs.size + 1 ∨ b = s1.heap.objs.size := by simpa using hb
    have hle : s1.heap.objs.size ≤ b := by
      rcases e' with z | z
      · rw [z]; exact Nat.le_add_right _ _
      · rw [z]; exact Nat.le_refl _
    exact I1.fpOk hle (I1.hok.fresh hle)
theorem walk_enumT {K : PySem.W.Frag} {a : Addr} {xs : List V} : Walk (IteT K a) xs.length (fun H => SqT K H a xs) (YPair (fun i => some (.int (i : Nat))) (fun i => xs[i]?)) := by
  refine ⟨fun i _ hi q => ⟨xs, xs[i], q, List.getElem?_eq_getElem hi⟩, fun _ q => ⟨xs, q, rfl⟩, fun i H v H' _ q y => ?_⟩
  obtain ⟨T, x, h1, h2, h3, h4⟩ := y
  exact ⟨T, _, x, h1, h2, h3, rfl, h4 xs q⟩
end Sly

set_option Elab.async false
set_option linter.all false
set_option maxRecDepth 100000
set_option maxHeartbeats 4000000
/-! Plain laws: all rows, worlds. -/
namespace Sly
open PySem PySem.Spec PyProof.Rows L2
open PySem.W (Datum DatumOrd Tup T3)
/-- all rows, the first part first -/
def rowsF {α : Type} : List (List α) → List (List α)
  | [] => [[]]
  | p :: ps => p.flatMap fun x => (rowsF ps).map (x :: ·)
theorem allRows_from {α : Type} : ∀ (parts : List (List α)) (found : List (List α)), parts.foldl (fun found part => found.flatMap fun row => part.map fun one => row ++ [one]) found = found.flatMap fun r => (rowsF parts).map (r ++ ·)
  | [], found => by
    show found = found.flatMap fun r => [r ++ []]
    simp
  | p :: ps, found => by
    rw [List.foldl_cons, allRows_from ps]
    rw [List.flatMap_assoc]
    congr 1
    funext r
    show _ = ((p.flatMap fun x => (rowsF ps).map (x :: ·))).map (r ++ ·)
    rw [List.map_flatMap, List.flatMap_map]
    congr 1
    funext x
    rw [List.map_map]
    congr 1
    funext y
    simp
theorem allRows_eq {α : Type} (parts : List (List α)) : allRows parts = rowsF parts := by
  show parts.foldl _ [[]] = _
  rw [allRows_from]
  simp
theorem mem_rowsF {α : Type} {r : List α} : ∀ {parts : List (List α)}, r ∈ rowsF parts → r.length = parts.length ∧ ∀ (i : Nat) (x : α) (p : List α), r[i]? = some x → parts[i]? = some p → x ∈ p := by
  intro parts
  induction parts generalizing r with
  | nil =>
    intro h
    have : r = [] := by simpa [rowsF] using h
    subst this
    exact ⟨rfl, fun i x p h => by simp at h⟩
  | cons p ps ih =>
    intro h
    obtain ⟨x, hx, h⟩ := List.mem_flatMap.mp h
    obtain ⟨y, hy, rfl⟩ := List.mem_map.mp h
    obtain ⟨h1, h2⟩ := ih hy
    refine ⟨by simp [h1], fun i z q hz hq => ?_⟩
    cases i with
    | zero =>
      have e1 : x = z := by simpa using hz
      have e2 : p = q := by simpa using hq
      subst e1 e2
      exact hx
    | succ i => exact h2 i z q (by simpa using hz) (by simpa using hq)
theorem rowsF_mem {α : Type} : ∀ {parts : List (List α)} {r : List α}, r.length = parts.length → (∀ (i : Nat) (x : α) (p : List α), r[i]? = some x → parts[i]? = some p → x ∈ p) → r ∈ rowsF parts
  | [], [], _, _ => by simp [rowsF]
  | p :: ps, [], h, _ => by simp at h
  | [], x :: r, h, _ => by simp at h
  | p :: ps, x :: r, h, m => by
    refine List.mem_flatMap.mpr ⟨x, m 0 x p rfl rfl, List.mem_map.mpr ⟨r, rowsF_mem (by simpa using h) fun i z q hz hq => m (i + 1) z q (by simpa using hz) (by simpa using hq), rfl⟩⟩
theorem mem_worlds {h : Hse} {w : Wld} (m : w ∈ worldsOf h) : w.1.items ∈ rowsF (h.1.items.map (·.2.items)) ∧ w.2.items ∈ rowsF (h.2.items.map (·.2.items)) := by
  unfold worldsOf at m
  obtain ⟨ws, h1, h2⟩ := List.mem_flatMap.mp m
  obtain ⟨ss, h3, h4⟩ := List.mem_map.mp h2
  obtain ⟨a, ha, rfl⟩ := List.mem_map.mp h1
  obtain ⟨b, hb, rfl⟩ := List.mem_map.mp h3
  subst h4
  rw [allRows_eq] at ha hb
  exact ⟨ha, hb⟩
theorem world_ok {h : Hse} {w : Wld} (hk : HseOk h) (m : w ∈ worldsOf h) : WldOk h w := by
  obtain ⟨h1, h2⟩ := mem_worlds m
  obtain ⟨l1, m1⟩ := mem_rowsF h1
  obtain ⟨l2, m2⟩ := mem_rowsF h2
  rw [List.length_map] at l1 l2
  refine ⟨l1, l2, fun n hn => ?_, fun s hs => ?_⟩
  · obtain ⟨i, hi⟩ := List.mem_iff_getElem?.mp hn
    have il := (List.getElem?_eq_some_iff.mp hi).1
    have e : h.1.items[i]? = some (h.1.items[i]'(by omega)) := List.getElem?_eq_getElem _
    have q := m1 i n (h.1.items[i]'(by omega)).2.items hi (by rw [List.getElem?_map, e]; rfl)
    exact (hk.wts _ (List.mem_of_getElem? e)).2.2.2 n q
  · obtain ⟨i, hi⟩ := List.mem_iff_getElem?.mp hs
    have il := (List.getElem?_eq_some_iff.mp hi).1
    have e : h.2.items[i]? = some (h.2.items[i]'(by omega)) := List.getElem?_eq_getElem _
    have q := m2 i s (h.2.items[i]'(by omega)).2.items hi (by rw [List.getElem?_map, e]; rfl)
    exact (hk.srt _ (List.mem_of_getElem? e)).2.2.2 s q
/-- what a world has at place i stands among the parts there -/
theorem world_w {h : Hse} {w : Wld} (m : w ∈ worldsOf h) {i : Nat} {t : Thing} (ht : h.1.items[i]? = some t) : ∃ n, w.1.items[i]? = some n ∧ n ∈ t.2.items := by
  obtain ⟨h1, _⟩ := mem_worlds m
  obtain ⟨l1, m1⟩ := mem_rowsF h1
  rw [List.length_map] at l1
  have il := (List.getElem?_eq_some_iff.mp ht).1
  have e : w.1.items[i]? = some (w.1.items[i]'(by omega)) := List.getElem?_eq_getElem _
  exact ⟨_, e, m1 i _ t.2.items e (by rw [List.getElem?_map, ht]; rfl)⟩
theorem world_s {h : Hse} {w : Wld} (m : w ∈ worldsOf h) {i : Nat} {t : Scale} (ht : h.2.items[i]? = some t) : ∃ n, w.2.items[i]? = some n ∧ n ∈ t.2.items := by
  obtain ⟨_, h1⟩ := mem_worlds m
  obtain ⟨l1, m1⟩ := mem_rowsF h1
  rw [List.length_map] at l1
  have il := (List.getElem?_eq_some_iff.mp ht).1
  have e : w.2.items[i]? = some (w.2.items[i]'(by omega)) := List.getElem?_eq_getElem _
  exact ⟨_, e, m1 i _ t.2.items e (by rw [List.getElem?_map, ht]; rfl)⟩
theorem allRows_length {α : Type} (n m : Nat) (l : List (List α)) (hl : l.length ≤ m) (h : ∀ p ∈ l, p.length ≤ 4) : (allRows l).length ≤ 4 ^ m := by
  rw [allRows_eq]
  induction l generalizing m with
  | nil => exact Nat.one_le_pow _ _ (by decide)
  | cons p ps ih =>
    cases m with
    | zero => simp at hl
    | succ m =>
      have q := ih m (by simpa using hl) fun p hp => h p (List.mem_cons_of_mem _ hp)
      have hp := h p List.mem_cons_self
      have : ∀ (xs : List α), (xs.flatMap fun x => (rowsF ps).map (x :: ·)).length = xs.length * (rowsF ps).length := by
        intro xs
        induction xs with
        | nil => simp
        | cons x r ih => simp [List.flatMap_cons, ih, Nat.succ_mul]; omega
      show (p.flatMap fun x => (rowsF ps).map (x :: ·)).length ≤ _
      rw [this, Nat.pow_succ, Nat.mul_comm]
      exact Nat.mul_le_mul q hp
theorem worlds_len {h : Hse} (hk : HseOk h) : (worldsOf h).length ≤ 65536 := by
  have h1 : (allRows (h.1.items.map (·.2.items))).length ≤ 4 ^ 4 := allRows_length 0 4 _ (by rw [List.length_map]; exact hk.things) fun p hp => by
    obtain ⟨t, ht, rfl⟩ := List.mem_map.mp hp
    exact (hk.wts t ht).2.1
  have h2 : (allRows (h.2.items.map (·.2.items))).length ≤ 4 ^ 4 := allRows_length 0 4 _ (by rw [List.length_map]; have := hk.scales; omega) fun p hp => by
    obtain ⟨t, ht, rfl⟩ := List.mem_map.mp hp
    exact (hk.srt t ht).2.1
  unfold worldsOf
  have : ∀ (xs : List (Tup Int)) (ys : List (Tup Srt)), (xs.flatMap fun ws => ys.map fun ss => (ws, ss)).length = xs.length * ys.length := by
    intro xs ys
    induction xs with
    | nil => simp
    | cons x r ih => simp [List.flatMap_cons, ih, Nat.succ_mul]; omega
  rw [this, List.length_map, List.length_map]
  exact Nat.le_trans (Nat.mul_le_mul h1 h2) (by decide)
end Sly

set_option Elab.async false
set_option linter.all false
set_option maxRecDepth 100000
set_option maxHeartbeats 4000000
/-! sorted(list) of typed frozen data. -/
namespace Sly
open PySem PySem.Spec PyProof.Rows L2
open PySem.W (Datum DatumOrd Tup T3 Holds HoldAll EachIs dataLe dataLt AllAlike Sortable TotalLe sameRank)
section
variable {α : Type} [DecidableEq α] [Datum α]
theorem each_split {H : Hp} : ∀ {us : List Value} {bs : List α}, EachIs (fun u b => ∃ v, RelV v u ∧ Ho H v b) us bs → ∃ vs, Vals vs us ∧ HoA H vs bs
  | _, _, .nil => ⟨[], .nil, HoA.nil⟩
  | _, _, .cons ⟨v, r, h⟩ t => by
    obtain ⟨vs, r2, h2⟩ := each_split t
    exact ⟨v :: vs, .cons r r2, HoA.cons h h2⟩
theorem each_mk {H : Hp} : ∀ {vs : List V} {us : List Value} {bs : List α}, Vals vs us → HoA H vs bs → EachIs (fun u b => ∃ v, RelV v u ∧ Ho H v b) us bs
  | vs, us, [], r, h => by
    have e := hoA_nil h
    subst e
    cases r
    exact .nil
  | vs, us, b :: bs, r, h => by
    obtain ⟨v, ws, rfl, h1, h2⟩ := hoA_cons h
    cases r with
    | cons r1 r2 => exact .cons ⟨v, r1, h1⟩ (each_mk r2 h2)
/-- sorted(xs) of frozen data -/
def rSortedH (α : Type) [DecidableEq α] [Datum α] : List V → Hp → VK → Prop := fun vs H Q => ∃ (a : Addr) (xs : List α), vs = [.ref a] ∧ Ls H a xs ∧ AllAlike (xs.map Datum.toD) ∧ Sortable (xs.map Datum.toD) ∧ xs.length ≤ 1000000 ∧
  ∀ p H', Same H H' → H p = none → Ls H' p (xs.mergeSort (dataLe false Datum.toD)) → Q (.ref p) H'
theorem cr_sortedH {X : Cx} (hu : X.A.units + 64 < cLine) (hd : Datum.depth α ≤ 60) : CallR X (.builtin "sorted") (rSortedH α) := by
  intro pins s σ H xs us Q I r h
  obtain ⟨a, bs, rfl, ⟨vs, ha, hvs⟩, hal, hso, hle, q⟩ := h
  obtain ⟨its, rv, hl, hz⟩ := I.list (SqL.of (K := X.K) ha)
  obtain ⟨u, rfl, ru⟩ := vals1 r
  obtain rfl : u = Value.ref a := ru
  have e := each_mk (H := H) rv hvs
  refine PySem.W.sorted_data (enc := Datum.toD) hl.isList e (e.mono fun v b hx => Exists.elim hx fun x hx => holds_of I (Ho.dp (K := X.K) hx.2) hx.1) hal hso (small_le hle) (fun b _ => ?_) fun out ho eo => ?_
  · have := Datum.depth_le b
    omega
  · obtain ⟨ws, rw', hw⟩ := each_split eo
    obtain ⟨c, hc⟩ := sortedAll_at s.heap its out.toArray
    have kp : ∀ b o, s.heap.get? b = some o → (sortedAll s.heap its out.toArray).get? b = some o := fun b o e => sortedAll_old e
    have fr : H (s.heap.objs.size + 1) = none := I.hok.fresh (Nat.le_succ _)
    refine ⟨.ref (s.heap.objs.size + 1), upd H (s.heap.objs.size + 1) (.lst ws), I.laid (t' := s.toks) kp (Nat.le_succ _) ⟨?_, out, c, rw', hc⟩, rfl, q _ _ (Same.new fr) fr (Ls.new fr hw)⟩
    rw [hw.length]
    exact small_le (by rw [List.length_mergeSort]; exact hle)
/-! ### the sorted list is the one in order -/
theorem dataLe_total {β : Type} (k : β → PyData) : TotalLe (dataLe false k) := PySem.W.sortLe_total _ _ _
theorem dataLe_iff {β : Type} (k : β → PyData) (a b : β) : dataLe false k a b = !dataLt (k b) (k a) := rfl
theorem perm_small {β : Type} {l m : List β} (p : l.Perm m) (h : l.length ≤ 1) : l = m := by
  match l, h with
  | [], _ => exact (List.nil_perm.mp p).symm
  | [x], _ => exact (List.singleton_perm.mp p)
  | _ :: _ :: _, h => simp at h
theorem sort_is {β : Type} {k : β → PyData} {L M : List β} (hL : L.Pairwise fun a b => dataLt (k a) (k b) = true) (hp : M.Perm L) : M.mergeSort (dataLe false k) = L := by
  have T := dataLe_total k
  have asym : ∀ a b, dataLt (k a) (k b) = true → dataLt (k b) (k a) = false := fun a b h => by
    rcases T.total a b with e | e
    · rw [dataLe_iff] at e
      simpa using e
    · rw [dataLe_iff, h] at e
      cases e
  refine (PySem.W.sort_unique T (hL.imp fun {a b} h => ?_) fun c => ?_).symm
  · rw [dataLe_iff, asym a b h]
    rfl
  · refine perm_small ((hp.filter _).symm) ?_
    have hf : (L.filter (sameRank (dataLe false k) c)).Pairwise fun a b => dataLt (k a) (k b) = true := hL.sublist List.filter_sublist
    have hm : ∀ x ∈ L.filter (sameRank (dataLe false k) c), dataLe false k c x = true ∧ dataLe false k x c = true := fun x hx => by
      have := (List.mem_filter.mp hx).2
      unfold sameRank at this
      rw [Bool.and_eq_true] at this
      exact this
    generalize L.filter (sameRank (dataLe false k) c) = F at hf hm
    match F, hf, hm with
    | [], _, _ => simp
    | [x], _, _ => simp
    | x :: y :: r, hf, hm =>
      have h1 := (List.pairwise_cons.mp hf).1 y List.mem_cons_self
      have h2 := T.trans y c x (hm y (by simp)).2 (hm x (by simp)).1
      rw [dataLe_iff, h1] at h2
      cases h2
end
end Sly

set_option Elab.async false
set_option linter.all false
set_option maxRecDepth 100000
set_option maxHeartbeats 4000000
/-! Plain laws: the order of typed data; worlds stand in order. -/
namespace Sly
open PySem PySem.Spec PyProof.Rows L2
open PySem.W (Datum DatumOrd Tup T3 dataLe dataLt AllAlike Sortable TotalLe sameRank alike keyToks)
section
variable {α : Type} [DecidableEq α] [DatumOrd α]
theorem ord_tri {a b : α} (h1 : DatumOrd.lt a b = false) (h2 : DatumOrd.lt b a = false) : a = b := by
  rw [← DatumOrd.lt_eq] at h1 h2
  refine Decidable.byContradiction fun ne => ?_
  have e : PyData.eqv (Datum.toD a) (Datum.toD b) = false := by rw [Datum.eqv, decide_eq_false_iff_not]; exact ne
  have q := (PySem.W.toks_eqv _ _ (DatumOrd.alike a b)).2 e
  have t : keyToks (Datum.toD a) = keyToks (Datum.toD b) := (listOrd itemOrd).total _ _ h1 h2
  have z := q [] [Sum.inl 1]
  rw [← t, PySem.W.lex_pre] at z
  have y : PyProof.Rows.lexLt itemOrd (keyToks (Datum.toD a)) (keyToks (Datum.toD a)) = false := PySem.W.dataLt_self _
  rw [y] at z
  cases z
theorem ord_irrefl (a : α) : DatumOrd.lt a a = false := by
  rw [← DatumOrd.lt_eq]
  exact PySem.W.dataLt_self _
theorem ord_all (xs : List α) : AllAlike (xs.map Datum.toD) := AllAlike.of DatumOrd.alike
/-- sorted without twins: strictly in order -/
theorem sort_strict {xs : List α} (nd : xs.Nodup) : (xs.mergeSort (dataLe false Datum.toD)).Pairwise fun a b => DatumOrd.lt a b = true := by
  have h1 := PySem.W.sort_pairwise (dataLe_total (Datum.toD (α := α))) xs
  have h2 : (xs.mergeSort (dataLe false Datum.toD)).Nodup := (List.mergeSort_perm xs _).nodup_iff.mpr nd
  refine (h1.and h2).imp fun {a b} h => ?_
  obtain ⟨h3, h4⟩ := h
  rw [dataLe_iff, DatumOrd.lt_eq] at h3
  cases e : DatumOrd.lt a b with
  | true => rfl
  | false =>
    refine absurd (ord_tri e ?_) h4
    simpa using h3
/-- the sorted list is the one in order -/
theorem sort_to {L M : List α} (hL : L.Pairwise fun a b => DatumOrd.lt a b = true) (hp : M.Perm L) : M.mergeSort (dataLe false Datum.toD) = L := sort_is (k := Datum.toD) (hL.imp fun {a b} h => by rw [DatumOrd.lt_eq]; exact h) hp
theorem ord_nodup {L : List α} (hL : L.Pairwise fun a b => DatumOrd.lt a b = true) : L.Nodup := hL.imp fun {a b} h e => by
  subst e
  rw [ord_irrefl] at h
  cases h
theorem rows_sorted : ∀ parts : List (List α), (∀ p ∈ parts, p.Pairwise fun a b => DatumOrd.lt a b = true) → (rowsF parts).Pairwise fun r s => PySem.W.listLt r s = true
  | [], _ => by simp [rowsF]
  | p :: ps, h => by
    have ih := rows_sorted ps fun q hq => h q (List.mem_cons_of_mem _ hq)
    show (p.flatMap fun x => (rowsF ps).map (x :: ·)).Pairwise _
    rw [List.pairwise_flatMap]
    refine ⟨fun x hx => ?_, (h p List.mem_cons_self).imp fun {x y} hxy r hr s hs => ?_⟩
    · rw [List.pairwise_map]
      refine ih.imp fun {r s} hrs => ?_
      show PySem.W.listLt (x :: r) (x :: s) = true
      rw [PySem.W.listLt, if_pos rfl]
      exact hrs
    · obtain ⟨r', _, rfl⟩ := List.mem_map.mp hr
      obtain ⟨s', _, rfl⟩ := List.mem_map.mp hs
      show PySem.W.listLt (x :: r') (y :: s') = true
      have ne : ¬ x = y := fun e => by
        subst e
        rw [ord_irrefl] at hxy
        cases hxy
      rw [PySem.W.listLt, if_neg ne]
      exact hxy
end
theorem worlds_sorted {h : Hse} (hk : HseOk h) : (worldsOf h).Pairwise fun a b => DatumOrd.lt a b = true := by
  unfold worldsOf
  rw [List.pairwise_flatMap]
  have h1 : ((allRows (h.1.items.map (·.2.items))).map Tup.mk).Pairwise fun a b => DatumOrd.lt a b = true := by
    rw [List.pairwise_map, allRows_eq]
    refine rows_sorted _ fun p hp => ?_
    obtain ⟨t, ht, rfl⟩ := List.mem_map.mp hp
    exact (hk.wts t ht).2.2.1.imp fun {a b} q => decide_eq_true q
  have h2 : ((allRows (h.2.items.map (·.2.items))).map Tup.mk).Pairwise fun a b => DatumOrd.lt a b = true := by
    rw [List.pairwise_map, allRows_eq]
    refine rows_sorted _ fun p hp => ?_
    obtain ⟨t, ht, rfl⟩ := List.mem_map.mp hp
    exact (hk.srt t ht).2.2.1
  refine ⟨fun a _ => ?_, h1.imp fun {a b} hab x hx y hy => ?_⟩
  · rw [List.pairwise_map]
    refine h2.imp fun {x y} q => ?_
    show (if a = a then DatumOrd.lt x y else DatumOrd.lt a a) = true
    rw [if_pos rfl]
    exact q
  · obtain ⟨x', _, rfl⟩ := List.mem_map.mp hx
    obtain ⟨y', _, rfl⟩ := List.mem_map.mp hy
    have ne : ¬ a = b := fun e => by
      subst e
      rw [ord_irrefl] at hab
      cases hab
    show (if a = b then DatumOrd.lt x' y' else DatumOrd.lt a b) = true
    rw [if_neg ne]
    exact hab
end Sly

set_option Elab.async false
set_option linter.all false
set_option maxRecDepth 100000
set_option maxHeartbeats 4000000
/-! Walks: giving, fitting. -/
namespace Sly
open PySem PySem.Spec PyProof.Rows L2
open PySem.W (Datum DatumOrd Tup T3)
theorem SeenOk.row {h : Hse} {seen : List Told} (s : SeenOk h seen) : RowOk h (seen.map (·.1)) := by
  refine ⟨by rw [List.length_map]; exact s.1, fun g hg => ?_⟩
  obtain ⟨p, hp, rfl⟩ := List.mem_map.mp hg
  exact (s.2 p hp).1
section
variable {P : Program} {w : PySem.World} {K : PySem.W.Frag} {mg : Str → Option Value} {base : Heap}
def spGiving : Sp := fun vs H Q _ => ∃ (v : V) (p : Addr) (h : Hse) (seen : List Told), vs = [v, .ref p] ∧ Ho H v h ∧ Ls H p seen ∧ HseOk h ∧ SeenOk h seen ∧
  ∀ q H', Same H H' → H q = none → Ls H' q (givingOf h seen) → Q (.ref q) H'
theorem ok_giving {f fW fT : Addr} {fd fdW fdT : FuncData} (F : Fun K "giving" "giving" sGiving f fd) (B : Blt mg)
    (GW : FnOk P w K mg base CX0 2 fW fdW ["house"] spWorlds) (kW : PySem.W.keepIn K (.ref fW) = true) (bW : Binds K fdW ["house"] []) (gW : mg "worlds" = some (.ref fW))
    (GT : FnOk P w K mg base CX0 3 fT fdT ["house", "world", "row"] spTells) (kT : PySem.W.keepIn K (.ref fT) = true) (bT : Binds K fdT ["house", "world", "row"] []) (gT : mg "tells" = some (.ref fT)) :
    FnOk P w K mg base CX0 4 f fd ["house", "seen"] spGiving := by
  refine F.ok scGiving (fun vs H Q E h => ?_) (fun cdv A outer s H vs Q E hr h => ?_)
  · obtain ⟨v, p, h, seen, rfl, _⟩ := h
    rfl
  · obtain ⟨v, p, h, seen, rfl, hv, ⟨us, hp, hus⟩, hk, hs, q⟩ := h
    have nd := scGiving.nd
    have hul : us.length = seen.length := hus.length
    have hsl := hs.1
    refine ⟨_, pss_cons (ps_asg (pe_tup (pa_cons (pe_lc (own := [("one", 4), ("told", 5)]) (g := gTup K 2 (gCons (gName 4) (gCons (gName 5) gNil))) (tt := tYes) (te := tVar 4) rfl nd (pi_list (pv 1))
          (blkOk_by (N := nGiving) (sc := defScope sGiving) (by decide +kernel)) (fun _ _ _ _ _ => pg_tup rfl (pgs_cons (pg_name (i := 4) nd rfl (.inl rfl)) (pgs_cons (pg_name (i := 5) nd rfl (.inl rfl)) pgs_nil))) (fun _ _ _ _ _ => pts_nil) (fun _ _ _ _ _ => pv 4))
        (pa_cons (pe_lc (own := [("one", 4), ("told", 5)]) (g := gTup K 2 (gCons (gName 4) (gCons (gName 5) gNil))) (tt := tYes) (te := tVar 5) rfl nd (pi_list (pv 1))
          (blkOk_by (N := nGiving) (sc := defScope sGiving) (by decide +kernel)) (fun _ _ _ _ _ => pg_tup rfl (pgs_cons (pg_name (i := 4) nd rfl (.inl rfl)) (pgs_cons (pg_name (i := 5) nd rfl (.inl rfl)) pgs_nil))) (fun _ _ _ _ _ => pts_nil) (fun _ _ _ _ _ => pv 5)) pa_nil)))
        (pg_tup rfl (pgs_cons (pg_name (i := 2) nd rfl (.inr rfl)) (pgs_cons (pg_name (i := 3) nd rfl (.inr rfl)) pgs_nil))))
      (pss_one (ps_ret (pe_lc (own := [("world", 6)]) (g := gName 6) (tt := tTest (tOp (rEqT (List Int) K) (tCall spTells [] E0 (tCons (tVar 0) (tCons (tVar 6) (tCons (tVar 2) tNil)))) (tVar 3))) (te := tVar 6) rfl nd (pi_list (pe_call GW (hr.mono (by decide)) (by rfl) gW kW bW .nil pass0 (pa_cons (pv 0) pa_nil)))
        (blkOk_by (N := nGiving) (sc := defScope sGiving) (by decide +kernel)) (fun _ _ _ _ _ => pg_name (i := 6) nd rfl (.inl rfl)) (fun _ _ _ _ _ => pts_one (pt_cmpR (op_eqT (α := List Int) hr.units (by decide)) (pe_call GT hr (by rfl) gT kT bT .nil pass0 (pa_cons (pv 0) (pa_cons (pv 6) (pa_cons (pv 2) pa_nil)))) (pv 3) (nomark _))) (fun _ _ _ _ _ => pv 6)))), ?_⟩
    refine ⟨_, rfl, p, rfl, ⟨us, SqL.of hp⟩, fun D hD => ?_⟩
    refine lc_seq (walk_list (K := K) (a := p) (xs := us)) hD (fun t : Told => some t.1) hus (by omega) (fun H s => SqL.of (s _ _ hp)) ?_ ?_
    · intro t v H1 P1 P0 _ s1 hv1 hP _
      obtain ⟨b, x, y, rfl, hb, hx, hy⟩ := ho_pair hv1
      exact ⟨b, _, rfl, SqT.of hb, rfl, _, _, rfl, _, _, rfl, rfl, rfl, yes ⟨_, rfl, hP _ _ _ (Same.refl _) rfl hx⟩⟩
    intro H1 s1 h1
    rw [fm_map] at h1
    refine ⟨_, rfl, p, rfl, ⟨us, SqL.of (s1 _ _ hp)⟩, fun D2 hD2 => ?_⟩
    refine lc_seq (walk_list (K := K) (a := p) (xs := us)) hD2 (fun t : Told => some t.2) (hus.up s1) (by omega) (fun H s => SqL.of (s _ _ (s1 _ _ hp))) ?_ ?_
    · intro t v H1 P1 P0 _ s1 hv1 hP _
      obtain ⟨b, x, y, rfl, hb, hx, hy⟩ := ho_pair hv1
      exact ⟨b, _, rfl, SqT.of hb, rfl, _, _, rfl, _, _, rfl, rfl, rfl, yes ⟨_, rfl, hP _ _ _ (Same.refl _) rfl hy⟩⟩
    intro H2 s2 h2
    rw [fm_map] at h2
    refine ⟨small_le (by show 2 ≤ 1000000; decide), fun t ht => ?_⟩
    have s3 : Same H2 (upd H2 t (.tup [.ref D, .ref D2])) := Same.new ht
    refine ⟨t, _, rfl, SqT.of upd_same, rfl, _, _, rfl, _, _, rfl, rfl, ?_⟩
    have h13 := (h1.up s2).up s3
    have h23 := h2.up s3
    have s13 := Same.trans (Same.trans s1 s2) s3
    refine ⟨_, rfl, _, h, rfl, hv.up s13, hk, fun q1 H4 s4 n4 h4 => ?_⟩
    obtain ⟨ws, e4, g4⟩ := h4
    have hwl := worlds_len hk
    have s14 := Same.trans s13 s4
    refine ⟨q1, rfl, ⟨ws, SqL.of e4⟩, fun D3 hD3 => ?_⟩
    refine lc_seq (walk_list (K := K) (a := q1) (xs := ws)) hD3 (fun wd : Wld => if decide (tellsOf h wd (seen.map (·.1)) = seen.map (·.2)) = true then some wd else none) g4 (by omega) (fun H s => SqL.of (s _ _ e4)) ?_ ?_
    · intro wd v H5 P1 P0 hm s5 hv5 hP hP0
      refine ⟨rfl, ?_⟩
      refine ⟨_, rfl, _, rfl, _, rfl, _, _, D, h, wd, _, rfl, (hv.up s14).up s5, hv5, (h13.up s4).up s5, hk, world_ok hk hm, hs.row, fun q6 H6 s6 n6 h6 => ?_⟩
      refine ⟨_, rfl, _, _, h6.dp, (((h23.up s4).up s5).up s6).dp, _, rfl, ite2 (fun e => ?_) (fun e => ?_)⟩
      · exact ⟨_, rfl, hP _ _ wd s6 (if_pos e) (hv5.up s6)⟩
      · exact hP0 _ s6 (if_neg e)
    intro H5 s5 h5
    rw [fm_filter] at h5
    exact q D3 H5 (Same.trans s14 s5) (s14.free hD3) h5
def spFitting : Sp := spGiving
theorem ok_fitting {f fN fG : Addr} {fd fdN fdG : FuncData} (F : Fun K "fitting" "fitting" sFitting f fd)
    (GN : FnOk P w K mg base CX0 6 fN fdN ["house", "seen"] spNeed) (kN : PySem.W.keepIn K (.ref fN) = true) (bN : Binds K fdN ["house", "seen"] []) (gN : mg "need_seen" = some (.ref fN))
    (GG : FnOk P w K mg base CX0 4 fG fdG ["house", "seen"] spGiving) (kG : PySem.W.keepIn K (.ref fG) = true) (bG : Binds K fdG ["house", "seen"] []) (gG : mg "giving" = some (.ref fG)) :
    FnOk P w K mg base CX0 7 f fd ["house", "seen"] spGiving := by
  refine F.ok scFitting (fun vs H Q E h => ?_) (fun cdv A outer s H vs Q E hr h => ?_)
  · obtain ⟨v, p, h, seen, rfl, _⟩ := h
    rfl
  · obtain ⟨v, p, h, seen, rfl, hv, hp, hk, hs, q⟩ := h
    refine ⟨_, pss_cons (ps_expr (pe_call GN hr (by rfl) gN kN bN .nil pass0 (pa_cons (pv 0) (pa_cons (pv 1) pa_nil))))
      (pss_one (ps_ret (pe_call GG (hr.mono (by decide)) (by rfl) gG kG bG .nil pass0 (pa_cons (pv 0) (pa_cons (pv 1) pa_nil))))), ?_⟩
    refine ⟨_, rfl, _, rfl, _, _, h, seen, rfl, hv, hp, hk, hs, fun H1 s1 => ?_⟩
    refine ⟨_, rfl, _, rfl, _, _, h, seen, rfl, hv.up s1, hp.up s1, hk, hs, fun q1 H2 s2 n2 h2 => ?_⟩
    exact q q1 H2 (Same.trans s1 s2) (s1.free n2) h2
end
end Sly

set_option Elab.async false
set_option linter.all false
set_option maxRecDepth 100000
set_option maxHeartbeats 4000000
/-! Walks: weights_left, sorts_left. -/
namespace Sly
open PySem PySem.Spec PyProof.Rows L2
open PySem.W (Datum DatumOrd Tup T3)
theorem blkOk_in {N : List Str} {sc scope scope2 : Scope} {own : List (Str × Nat)} (h : blkC N (relS scope sc) scope2 own = true) : BlkOk N (relS scope sc) scope2 own := blkOk_by h
/-- x == y of frozen data -/
def rEqH (α : Type) [DecidableEq α] [Datum α] : R2 := fun x y H Q => ∃ d e : α, Ho H x d ∧ Ho H y e ∧ Q (.bl (decide (d = e))) H
theorem op_eqH {X : Cx} {α : Type} [DecidableEq α] [Datum α] (hu : X.A.units + 64 < cLine) (hd : Datum.depth α ≤ 60) : OpR X (compareOp .Eq) (rEqH α) := fun pins s σ H x y v u Q I rx ry ⟨d, e, h1, h2, q⟩ => op_eqT (α := α) hu hd pins s σ H x y v u Q I rx ry ⟨d, e, h1.dp, h2.dp, q⟩
def leftW (h : Hse) (seen : List Told) : Nat → Option (Str × Tup Int) := fun i => h.1.items[i]?.bind fun t => some (t.1, Tup.mk (t.2.items.filter fun one => (givingOf h seen).any fun w => decide (w.1.items[i]? = some one)))
def leftS (h : Hse) (seen : List Told) : Nat → Option (Str × Tup Srt) := fun i => h.2.items[i]?.bind fun t => some (t.1, Tup.mk (t.2.items.filter fun one => (givingOf h seen).any fun w => decide (w.2.items[i]? = some one)))
def weightsLeft (h : Hse) (seen : List Told) : List (Str × Tup Int) := (List.range h.1.items.length).filterMap (leftW h seen)
def sortsLeft (h : Hse) (seen : List Told) : List (Str × Tup Srt) := (List.range h.2.items.length).filterMap (leftS h seen)
theorem any_map {α : Type} (l : List α) (f : α → Bool) : (l.map f).any id = l.any f := by
  rw [List.any_map]
  rfl
section
variable {P : Program} {w : PySem.World} {K : PySem.W.Frag} {mg : Str → Option Value} {base : Heap}
def spWLeft : Sp := fun vs H Q _ => ∃ (v : V) (p : Addr) (h : Hse) (seen : List Told), vs = [v, .ref p] ∧ Ho H v h ∧ Ls H p seen ∧ HseOk h ∧ SeenOk h seen ∧
  ∀ q H', Same H H' → H q = none → Ls H' q (weightsLeft h seen) → Q (.ref q) H'
def spSLeft : Sp := fun vs H Q _ => ∃ (v : V) (p : Addr) (h : Hse) (seen : List Told), vs = [v, .ref p] ∧ Ho H v h ∧ Ls H p seen ∧ HseOk h ∧ SeenOk h seen ∧
  ∀ q H', Same H H' → H q = none → Ls H' q (sortsLeft h seen) → Q (.ref q) H'
theorem ok_wleft {f fN fG : Addr} {fd fdN fdG : FuncData} (F : Fun K "weights_left" "weights_left" sWeightsLeft f fd) (B : Blt mg)
    (GN : FnOk P w K mg base CX0 6 fN fdN ["house", "seen"] spNeed) (kN : PySem.W.keepIn K (.ref fN) = true) (bN : Binds K fdN ["house", "seen"] []) (gN : mg "need_seen" = some (.ref fN))
    (GG : FnOk P w K mg base CX0 4 fG fdG ["house", "seen"] spGiving) (kG : PySem.W.keepIn K (.ref fG) = true) (bG : Binds K fdG ["house", "seen"] []) (gG : mg "giving" = some (.ref fG)) :
    FnOk P w K mg base CX0 7 f fd ["house", "seen"] spWLeft := by
  refine F.ok scWeightsLeft (fun vs H Q E h => ?_) (fun cdv A outer s H vs Q E hr h => ?_)
  · obtain ⟨v, p, h, seen, rfl, _⟩ := h
    rfl
  · obtain ⟨v, p, h, seen, rfl, hv, hp, hk, hs, q⟩ := h
    have nd := scWeightsLeft.nd
    refine ⟨_, pss_cons (ps_expr (pe_call GN hr (by rfl) gN kN bN .nil pass0 (pa_cons (pv 0) (pa_cons (pv 1) pa_nil))))
      (pss_cons (ps_set (i := 2) nd rfl (.inr rfl) (pe_call GG (hr.mono (by decide)) (by rfl) gG kG bG .nil pass0 (pa_cons (pv 0) (pa_cons (pv 1) pa_nil))))
      (pss_cons (ps_set (i := 3) nd rfl (.inl rfl) (pe_lst pa_nil))
      (pss_cons (ps_for PassesOwn.never rfl (pi_enumT (by rfl) B.enumerate (pa_cons (pe_ix ix_tup (pv 0) pe_int (fun _ _ => rfl)) pa_nil)) (pg_tup rfl (pgs_cons (pg_name (i := 4) nd rfl (.inr rfl)) (pgs_cons (pg_tup rfl (pgs_cons (pg_name (i := 5) nd rfl (.inl rfl)) (pgs_cons (pg_name (i := 6) nd rfl (.inl rfl)) pgs_nil))) pgs_nil)))
        (pss_one (ps_expr (pe_bm PySem.F.plainAttrs_list PySem.F.slot_list_append PySem.F.type_list_append mt_append (pv 3) (pa_cons (pe_tup (pa_cons (pv 5) (pa_cons (pe_callTy call_tuple_of (by rfl) B.tuple b_tuple (pa_cons
          (pe_lc (own := [("one", 7)]) (g := gName 7) (tt := tB (tCB (rAny K) (tCons (tLc (iList K (tVar 2)) (gName 8) tYes (tOp (rEqH Int) (tOp (rIxT K) (tOp (rIxT K) (tVar 8) (tC (.int 0))) (tVar 4)) (tVar 7)) [8]) tNil))) (te := tVar 7) rfl nd (pi_tup (pv 6)) (blkOk_by (N := nWeightsLeft) (sc := defScope sWeightsLeft) (by decide +kernel)) (fun _ _ _ _ _ => pg_name (i := 7) nd rfl (.inr rfl))
            (fun _ _ _ _ _ => pts_one (pt_val (pe_callB (cr_any rfl) (by rfl) B.any b_any (pa_cons (pe_lc (own := [("world", 8)]) (g := gName 8) (tt := tYes) (te := tOp (rEqH Int) (tOp (rIxT K) (tOp (rIxT K) (tVar 8) (tC (.int 0))) (tVar 4)) (tVar 7)) rfl nd (pi_list (pv 2))
              (blkOk_in (N := nWeightsLeft) (sc := defScope sWeightsLeft) (by decide +kernel)) (fun _ _ _ _ _ => pg_name (i := 8) nd rfl (.inl rfl)) (fun _ _ _ _ _ => pts_nil) (fun _ _ _ _ _ => pe_cmpR (op_eqH (α := Int) hr.units (by decide)) (pe_ix ix_tup (pe_ix ix_tup (pv 8) pe_int (fun _ _ => rfl)) (pv 4) (fun _ _ => rfl)) (pv 7) (nomark _))) pa_nil))))
            (fun _ _ _ _ _ => pv 7)) pa_nil)) pa_nil))) pa_nil)))))
      (pss_one (ps_ret (pv 3)))))), ?_⟩
    obtain ⟨a, x, y, rfl, ha, hx, hy⟩ := ho_pair hv
    obtain ⟨ax, xs, rfl, hax, hxs⟩ := ho_tup hx
    have hxl : xs.length = h.1.items.length := hxs.length
    have hk4 := hk.things
    refine ⟨_, rfl, _, rfl, _, _, h, seen, rfl, hv, hp, hk, hs, fun H1 s1 => ?_⟩
    refine ⟨_, rfl, _, rfl, _, _, h, seen, rfl, hv.up s1, hp.up s1, hk, hs, fun q1 H2 s2 n2 h2 => ?_⟩
    refine ⟨small_le (by show 0 ≤ 1000000; decide), fun D hD => ?_⟩
    have s12 := Same.trans s1 s2
    have sD : Same H2 (upd H2 D (.lst [])) := Same.new hD
    refine ⟨_, rfl, a, _, 0, _, rfl, rfl, SqT.of (sD _ _ (s12 _ _ ha)), atI_nat (j := 0) rfl, ax, xs, rfl, SqT.of (sD _ _ (s12 _ _ hax)), for_it (walk_enumT (K := K) (a := ax) (xs := xs)) (fun n σ H' => ∃ y4 y5 y6, σ = [some (.ref a), some (.ref p), some (.ref q1), some (.ref D), y4, y5, y6, none, none] ∧ Same H2 H' ∧ Ls H' D ((List.range n).filterMap (leftW h seen)))
      ⟨none, none, none, rfl, sD, [], upd_same, HoA.nil⟩ (fun n σ H' _ ⟨_, _, _, _, s3, _⟩ => SqT.of (s3 _ _ (s12 _ _ hax))) ?_ ?_⟩
    · rintro n x σ H3 H4 hn ⟨y4, y5, y6, rfl, s3, acc, eD, hacc⟩ ⟨T, x1, x2, rfl, nT, rfl, e1, e2⟩
      cases e1
      have e2' : xs[n]? = some x2 := e2
      have s23 := Same.trans s12 s3
      obtain ⟨t, et, ht⟩ := (hxs.up s23).back e2'
      obtain ⟨b, z1, z2, rfl, hb, hz1, hz2⟩ := ho_pair ht
      obtain ⟨bz, zs, rfl, hbz, hzs⟩ := ho_tup hz2
      have s4 : Same H3 (upd H3 T (.tup [.int (n : Nat), .ref b])) := Same.new nT
      have s34 := Same.trans s3 s4
      obtain ⟨wt1, wt2, wt3, wt4⟩ := hk.wts t (List.mem_of_getElem? et)
      refine ⟨T, _, rfl, SqT.of upd_same, rfl, _, _, rfl, _, _, rfl, ⟨b, _, rfl, SqT.of (s4 _ _ hb), rfl, _, _, rfl, _, _, rfl, rfl, rfl, ?_⟩⟩
      refine ⟨_, rfl, .inl ⟨rfl, _, SqL.of (s4 _ _ eD)⟩, _, rfl, _, rfl, bz, rfl, ⟨zs, SqT.of (s4 _ _ hbz)⟩, fun D2 hD2 => ?_⟩
      refine lc_seq (walk_tup (K := K) (a := bz) (xs := zs)) hD2 (fun one : Int => if ((givingOf h seen).any fun w => decide (w.1.items[n]? = some one)) = true then some one else none) (hzs.up s4) (by omega) (fun H s => SqT.of (s _ _ (s4 _ _ hbz))) ?_ ?_
      · intro one v H5 P1 P0 hm s5 hv5 hP hP0
        have s25 := Same.trans s34 s5
        obtain ⟨gs, eg, hgs⟩ := h2.up s25
        have hgl : (givingOf h seen).length ≤ 65536 := Nat.le_trans (List.length_filter_le _ _) (worlds_len hk)
        refine ⟨rfl, ?_⟩
        refine ⟨_, rfl, q1, rfl, ⟨gs, SqL.of eg⟩, fun D3 hD3 => ?_⟩
        refine lc_seq (walk_list (K := K) (a := q1) (xs := gs)) hD3 (fun w : Wld => some (decide (w.1.items[n]? = some one))) hgs (by omega) (fun H s => SqL.of (s _ _ eg)) ?_ ?_
        · intro w u H6 P2 P3 hw s6 hu hP2 _
          obtain ⟨b, x1, y1, rfl, hb, hx1, hy1⟩ := ho_pair hu
          obtain ⟨bx, us, rfl, hbx, hus⟩ := ho_tup hx1
          obtain ⟨m, em, hmm⟩ := world_w (List.mem_filter.mp hw).1 et
          obtain ⟨um, eum, hum⟩ := hus.at em
          refine ⟨rfl, yes ?_⟩
          refine ⟨_, rfl, b, _, 0, _, rfl, rfl, SqT.of hb, atI_nat (j := 0) rfl, _, rfl, bx, _, (n : Nat), _, rfl, rfl, SqT.of hbx, atI_nat (j := n) eum, _, rfl, m, one, hum, hv5.up s6, ?_⟩
          refine hP2 _ _ _ (Same.refl _) rfl ?_
          rw [em]
          have e : decide (m = one) = decide (some m = some one) := by simp
          rw [e]
          exact Ho.bl _
        · rintro H6 s6 ⟨bs, e6, g6⟩
          refine ⟨D3, _, rfl, SqL.of (by rw [e6, g6.bls]), _, rfl, ?_⟩
          rw [fm_map, any_map]
          refine ite2 (fun e => ?_) (fun e => ?_)
          · exact ⟨_, rfl, hP _ _ one s6 (if_pos e) (hv5.up s6)⟩
          · exact hP0 _ s6 (if_neg e)
      · intro H5 s5 h5
        rw [fm_filter] at h5
        obtain ⟨fs, e5, g5⟩ := h5
        have g5l := g5.length
        have flt : (t.2.items.filter fun one => (givingOf h seen).any fun w => decide (w.1.items[n]? = some one)).length ≤ 4 := Nat.le_trans (List.length_filter_le _ _) wt2
        refine ⟨D2, fs, rfl, .inl ⟨SqL.of e5, fun l hl => ?_⟩⟩
        have s6 : Same H5 (upd H5 l (.tup fs)) := Same.new hl
        refine ⟨small_le (by show 2 ≤ 1000000; decide), fun T2 hT2 => ?_⟩
        have s7 : Same (upd H5 l (.tup fs)) (upd (upd H5 l (.tup fs)) T2 (.tup [z1, .ref l])) := Same.new hT2
        have s47 := Same.trans s5 (Same.trans s6 s7)
        have eD7 := s47 _ _ (s4 _ _ eD)
        have hal := hacc.length
        have haln : acc.length ≤ n := by
          rw [hal]
          exact Nat.le_trans (List.length_filterMap_le _ _) (by simp)
        refine ⟨D, acc, _, rfl, rfl, eD7, small_of (by omega), ?_⟩
        have ts := TSame.putL (o := .lst (acc ++ [.ref T2])) eD7
        refine ⟨_, _, _, rfl, Same.mut (Same.trans s34 s47) hD, _, upd_same, ?_⟩
        rw [List.range_succ, List.filterMap_append]
        have eo : leftW h seen n = some (t.1, Tup.mk (t.2.items.filter fun one => (givingOf h seen).any fun w => decide (w.1.items[n]? = some one))) := by
          unfold leftW
          rw [et]
          rfl
        rw [show [n].filterMap (leftW h seen) = [(t.1, Tup.mk (t.2.items.filter fun one => (givingOf h seen).any fun w => decide (w.1.items[n]? = some one)))] by simp [eo]]
        refine HoA.snoc (((hacc.up s4).up s47).mono ts) ?_
        refine Ho.mono ts ?_
        exact Ho.newPair hT2 (((hz1.up s4).up s5).up s6) (Ho.newTup hl g5)
    · rintro σ H3 ⟨y4, y5, y6, rfl, s3, hacc⟩
      rw [hxl] at hacc
      refine ⟨_, rfl, ?_⟩
      exact q D H3 (Same.trans s12 s3) (s12.free hD) hacc
theorem ok_sleft {f fN fG : Addr} {fd fdN fdG : FuncData} (F : Fun K "sorts_left" "sorts_left" sSortsLeft f fd) (B : Blt mg)
    (GN : FnOk P w K mg base CX0 6 fN fdN ["house", "seen"] spNeed) (kN : PySem.W.keepIn K (.ref fN) = true) (bN : Binds K fdN ["house", "seen"] []) (gN : mg "need_seen" = some (.ref fN))
    (GG : FnOk P w K mg base CX0 4 fG fdG ["house", "seen"] spGiving) (kG : PySem.W.keepIn K (.ref fG) = true) (bG : Binds K fdG ["house", "seen"] []) (gG : mg "giving" = some (.ref fG)) :
    FnOk P w K mg base CX0 7 f fd ["house", "seen"] spSLeft := by
  refine F.ok scSortsLeft (fun vs H Q E h => ?_) (fun cdv A outer s H vs Q E hr h => ?_)
  · obtain ⟨v, p, h, seen, rfl, _⟩ := h
    rfl
  · obtain ⟨v, p, h, seen, rfl, hv, hp, hk, hs, q⟩ := h
    have nd := scSortsLeft.nd
    refine ⟨_, pss_cons (ps_expr (pe_call GN hr (by rfl) gN kN bN .nil pass0 (pa_cons (pv 0) (pa_cons (pv 1) pa_nil))))
      (pss_cons (ps_set (i := 2) nd rfl (.inr rfl) (pe_call GG (hr.mono (by decide)) (by rfl) gG kG bG .nil pass0 (pa_cons (pv 0) (pa_cons (pv 1) pa_nil))))
      (pss_cons (ps_set (i := 3) nd rfl (.inl rfl) (pe_lst pa_nil))
      (pss_cons (ps_for PassesOwn.never rfl (pi_enumT (by rfl) B.enumerate (pa_cons (pe_ix ix_tup (pv 0) pe_int (fun _ _ => rfl)) pa_nil)) (pg_tup rfl (pgs_cons (pg_name (i := 4) nd rfl (.inr rfl)) (pgs_cons (pg_tup rfl (pgs_cons (pg_name (i := 5) nd rfl (.inl rfl)) (pgs_cons (pg_name (i := 6) nd rfl (.inl rfl)) pgs_nil))) pgs_nil)))
        (pss_one (ps_expr (pe_bm PySem.F.plainAttrs_list PySem.F.slot_list_append PySem.F.type_list_append mt_append (pv 3) (pa_cons (pe_tup (pa_cons (pv 5) (pa_cons (pe_callTy call_tuple_of (by rfl) B.tuple b_tuple (pa_cons
          (pe_lc (own := [("one", 7)]) (g := gName 7) (tt := tB (tCB (rAny K) (tCons (tLc (iList K (tVar 2)) (gName 8) tYes (tOp (rEqH Srt) (tOp (rIxT K) (tOp (rIxT K) (tVar 8) (tC (.int 1))) (tVar 4)) (tVar 7)) [8]) tNil))) (te := tVar 7) rfl nd (pi_tup (pv 6)) (blkOk_by (N := nSortsLeft) (sc := defScope sSortsLeft) (by decide +kernel)) (fun _ _ _ _ _ => pg_name (i := 7) nd rfl (.inr rfl))
            (fun _ _ _ _ _ => pts_one (pt_val (pe_callB (cr_any rfl) (by rfl) B.any b_any (pa_cons (pe_lc (own := [("world", 8)]) (g := gName 8) (tt := tYes) (te := tOp (rEqH Srt) (tOp (rIxT K) (tOp (rIxT K) (tVar 8) (tC (.int 1))) (tVar 4)) (tVar 7)) rfl nd (pi_list (pv 2))
              (blkOk_in (N := nSortsLeft) (sc := defScope sSortsLeft) (by decide +kernel)) (fun _ _ _ _ _ => pg_name (i := 8) nd rfl (.inl rfl)) (fun _ _ _ _ _ => pts_nil) (fun _ _ _ _ _ => pe_cmpR (op_eqH (α := Srt) hr.units (by decide)) (pe_ix ix_tup (pe_ix ix_tup (pv 8) pe_int (fun _ _ => rfl)) (pv 4) (fun _ _ => rfl)) (pv 7) (nomark _))) pa_nil))))
            (fun _ _ _ _ _ => pv 7)) pa_nil)) pa_nil))) pa_nil)))))
      (pss_one (ps_ret (pv 3)))))), ?_⟩
    obtain ⟨a, x, y, rfl, ha, hx, hy⟩ := ho_pair hv
    obtain ⟨ax, xs, rfl, hax, hxs⟩ := ho_tup hy
    have hxl : xs.length = h.2.items.length := hxs.length
    have hk4 := hk.scales
    refine ⟨_, rfl, _, rfl, _, _, h, seen, rfl, hv, hp, hk, hs, fun H1 s1 => ?_⟩
    refine ⟨_, rfl, _, rfl, _, _, h, seen, rfl, hv.up s1, hp.up s1, hk, hs, fun q1 H2 s2 n2 h2 => ?_⟩
    refine ⟨small_le (by show 0 ≤ 1000000; decide), fun D hD => ?_⟩
    have s12 := Same.trans s1 s2
    have sD : Same H2 (upd H2 D (.lst [])) := Same.new hD
    refine ⟨_, rfl, a, _, 1, _, rfl, rfl, SqT.of (sD _ _ (s12 _ _ ha)), atI_nat (j := 1) rfl, ax, xs, rfl, SqT.of (sD _ _ (s12 _ _ hax)), for_it (walk_enumT (K := K) (a := ax) (xs := xs)) (fun n σ H' => ∃ y4 y5 y6, σ = [some (.ref a), some (.ref p), some (.ref q1), some (.ref D), y4, y5, y6, none, none] ∧ Same H2 H' ∧ Ls H' D ((List.range n).filterMap (leftS h seen)))
      ⟨none, none, none, rfl, sD, [], upd_same, HoA.nil⟩ (fun n σ H' _ ⟨_, _, _, _, s3, _⟩ => SqT.of (s3 _ _ (s12 _ _ hax))) ?_ ?_⟩
    · rintro n x σ H3 H4 hn ⟨y4, y5, y6, rfl, s3, acc, eD, hacc⟩ ⟨T, x1, x2, rfl, nT, rfl, e1, e2⟩
      cases e1
      have e2' : xs[n]? = some x2 := e2
      have s23 := Same.trans s12 s3
      obtain ⟨t, et, ht⟩ := (hxs.up s23).back e2'
      obtain ⟨b, z1, z2, rfl, hb, hz1, hz2⟩ := ho_pair ht
      obtain ⟨bz, zs, rfl, hbz, hzs⟩ := ho_tup hz2
      have s4 : Same H3 (upd H3 T (.tup [.int (n : Nat), .ref b])) := Same.new nT
      have s34 := Same.trans s3 s4
      obtain ⟨wt1, wt2, wt3, wt4⟩ := hk.srt t (List.mem_of_getElem? et)
      refine ⟨T, _, rfl, SqT.of upd_same, rfl, _, _, rfl, _, _, rfl, ⟨b, _, rfl, SqT.of (s4 _ _ hb), rfl, _, _, rfl, _, _, rfl, rfl, rfl, ?_⟩⟩
      refine ⟨_, rfl, .inl ⟨rfl, _, SqL.of (s4 _ _ eD)⟩, _, rfl, _, rfl, bz, rfl, ⟨zs, SqT.of (s4 _ _ hbz)⟩, fun D2 hD2 => ?_⟩
      refine lc_seq (walk_tup (K := K) (a := bz) (xs := zs)) hD2 (fun one : Srt => if ((givingOf h seen).any fun w => decide (w.2.items[n]? = some one)) = true then some one else none) (hzs.up s4) (by omega) (fun H s => SqT.of (s _ _ (s4 _ _ hbz))) ?_ ?_
      · intro one v H5 P1 P0 hm s5 hv5 hP hP0
        have s25 := Same.trans s34 s5
        obtain ⟨gs, eg, hgs⟩ := h2.up s25
        have hgl : (givingOf h seen).length ≤ 65536 := Nat.le_trans (List.length_filter_le _ _) (worlds_len hk)
        refine ⟨rfl, ?_⟩
        refine ⟨_, rfl, q1, rfl, ⟨gs, SqL.of eg⟩, fun D3 hD3 => ?_⟩
        refine lc_seq (walk_list (K := K) (a := q1) (xs := gs)) hD3 (fun w : Wld => some (decide (w.2.items[n]? = some one))) hgs (by omega) (fun H s => SqL.of (s _ _ eg)) ?_ ?_
        · intro w u H6 P2 P3 hw s6 hu hP2 _
          obtain ⟨b, x1, y1, rfl, hb, hx1, hy1⟩ := ho_pair hu
          obtain ⟨bx, us, rfl, hbx, hus⟩ := ho_tup hy1
          obtain ⟨m, em, hmm⟩ := world_s (List.mem_filter.mp hw).1 et
          obtain ⟨um, eum, hum⟩ := hus.at em
          refine ⟨rfl, yes ?_⟩
          refine ⟨_, rfl, b, _, 1, _, rfl, rfl, SqT.of hb, atI_nat (j := 1) rfl, _, rfl, bx, _, (n : Nat), _, rfl, rfl, SqT.of hbx, atI_nat (j := n) eum, _, rfl, m, one, hum, hv5.up s6, ?_⟩
          refine hP2 _ _ _ (Same.refl _) rfl ?_
          rw [em]
          have e : decide (m = one) = decide (some m = some one) := by simp
          rw [e]
          exact Ho.bl _
        · rintro H6 s6 ⟨bs, e6, g6⟩
          refine ⟨D3, _, rfl, SqL.of (by rw [e6, g6.bls]), _, rfl, ?_⟩
          rw [fm_map, any_map]
          refine ite2 (fun e => ?_) (fun e => ?_)
          · exact ⟨_, rfl, hP _ _ one s6 (if_pos e) (hv5.up s6)⟩
          · exact hP0 _ s6 (if_neg e)
      · intro H5 s5 h5
        rw [fm_filter] at h5
        obtain ⟨fs, e5, g5⟩ := h5
        have g5l := g5.length
        have flt : (t.2.items.filter fun one => (givingOf h seen).any fun w => decide (w.2.items[n]? = some one)).length ≤ 4 := Nat.le_trans (List.length_filter_le _ _) wt2
        refine ⟨D2, fs, rfl, .inl ⟨SqL.of e5, fun l hl => ?_⟩⟩
        have s6 : Same H5 (upd H5 l (.tup fs)) := Same.new hl
        refine ⟨small_le (by show 2 ≤ 1000000; decide), fun T2 hT2 => ?_⟩
        have s7 : Same (upd H5 l (.tup fs)) (upd (upd H5 l (.tup fs)) T2 (.tup [z1, .ref l])) := Same.new hT2
        have s47 := Same.trans s5 (Same.trans s6 s7)
        have eD7 := s47 _ _ (s4 _ _ eD)
        have hal := hacc.length
        have haln : acc.length ≤ n := by
          rw [hal]
          exact Nat.le_trans (List.length_filterMap_le _ _) (by simp)
        refine ⟨D, acc, _, rfl, rfl, eD7, small_of (by omega), ?_⟩
        have ts := TSame.putL (o := .lst (acc ++ [.ref T2])) eD7
        refine ⟨_, _, _, rfl, Same.mut (Same.trans s34 s47) hD, _, upd_same, ?_⟩
        rw [List.range_succ, List.filterMap_append]
        have eo : leftS h seen n = some (t.1, Tup.mk (t.2.items.filter fun one => (givingOf h seen).any fun w => decide (w.2.items[n]? = some one))) := by
          unfold leftS
          rw [et]
          rfl
        rw [show [n].filterMap (leftS h seen) = [(t.1, Tup.mk (t.2.items.filter fun one => (givingOf h seen).any fun w => decide (w.2.items[n]? = some one)))] by simp [eo]]
        refine HoA.snoc (((hacc.up s4).up s47).mono ts) ?_
        refine Ho.mono ts ?_
        exact Ho.newPair hT2 (((hz1.up s4).up s5).up s6) (Ho.newTup hl g5)
    · rintro σ H3 ⟨y4, y5, y6, rfl, s3, hacc⟩
      rw [hxl] at hacc
      refine ⟨_, rfl, ?_⟩
      exact q D H3 (Same.trans s12 s3) (s12.free hD) hacc
end
end Sly

set_option Elab.async false
set_option linter.all false
set_option maxRecDepth 100000
set_option maxHeartbeats 4000000
/-! sorted(dict) whose keys are sorts of scales. -/
namespace Sly
open PySem PySem.Spec PyProof.Rows L2
open PySem.W (Datum DatumOrd Tup T3 Holds HoldAll EachIs dataLe dataLt AllAlike Sortable TotalLe sameRank)
theorem srt_alike (xs : List Srt) : AllAlike (xs.map Datum.toD) := AllAlike.of fun ⟨s, a⟩ ⟨t, b⟩ => by
  cases a <;> cases b <;> (show PySem.W.alike (Srt.d _) (Srt.d _) = true) <;> simp [Srt.d, PySem.W.alike, PySem.W.alikeAll]
theorem srt_sortable (xs : List Srt) : Sortable (xs.map Datum.toD) := Sortable.tuples fun ⟨s, a⟩ => by
  cases a
  · exact ⟨_, _, rfl⟩
  · exact ⟨_, _, rfl⟩
theorem keys_srt {H : Hp} : ∀ {kvs : List (List L2.Key × V)} {bs : List Addr} {xs : List Srt}, IsKeys H kvs bs → kvs.map (·.1) = xs.map Srt.key → HoA H (bs.map V.ref) xs
  | _, _, [], h, e => by
    have e' := List.map_eq_nil_iff.mp e
    subst e'
    cases h
    exact HoA.nil
  | _, _, x :: xs, h, e => by
    cases h with
    | nil => cases e
    | cons h1 h2 =>
      rw [List.map_cons, List.map_cons] at e
      injection e with e1 e2
      exact HoA.cons (Ho.srt (by rw [← e1]; exact h1)) (keys_srt h2 e2)
theorem reads_srt {h : Heap} {u : Value} {x : Srt} {as : List Addr} (r : Reads h u (Datum.toD x) as) : as = [] := by
  obtain ⟨n, a⟩ := x
  have r' : Reads h u (Srt.d ⟨n, a⟩) as := r
  cases a with
  | none =>
    cases r' with
    | tuple _ _ _ h4 =>
      generalize hl : Array.toList _ = l at h4
      cases h4 with
      | cons h5 h6 =>
        cases h5
        cases h6
        rfl
  | some k =>
    cases r' with
    | tuple _ _ _ h4 =>
      generalize hl : Array.toList _ = l at h4
      cases h4 with
      | cons h5 h6 =>
        cases h5
        cases h6 with
        | cons h7 h8 =>
          cases h7
          cases h8
          rfl
def rSortedDT : List V → Hp → VK → Prop := fun vs H Q => ∃ (a : Addr) (kvs : List (List L2.Key × V)) (xs : List Srt), vs = [.ref a] ∧ Rd H a (.dT kvs) ∧ kvs.map (·.1) = xs.map Srt.key ∧ xs.length ≤ 1000 ∧
  ∀ p H', Same H H' → H p = none → Ls H' p (xs.mergeSort (dataLe false Datum.toD)) → Q (.ref p) H'
theorem cr_sortedDT {X : Cx} (hcalm : X.calm = true) (hu : X.A.units + 64 < cLine) : CallR X (.builtin "sorted") rSortedDT := by
  intro pins s σ H xs us Q I r q
  obtain ⟨a, kvs, ks, rfl, hd, hks, hle, q⟩ := q
  obtain ⟨u, rfl, rx⟩ := vals1 r
  cases rx
  obtain ⟨z, hs, vs, pr, o, es, ep, ho, hx, hdt, he, hn⟩ := (show ObjOk X.prog X.w H s.heap a (.dT kvs) from hd.ok I.hok)
  have l1 : es.size = vs.length := size_of_entries he
  have l2 : kvs.length = vs.length := Paired.length pr
  have l3 : kvs.length = ks.length := by
    have e := congrArg List.length hks
    rw [List.length_map, List.length_map] at e
    exact e
  refine Calls.call_function_entry PyProof.Rows.kind_sorted PyProof.Rows.plain_sorted PyProof.Rows.entry_sorted (PyProof.Rows.args_sorted1 _) ?_
  unfold Builtin.«sorted»
  refine wpAny_bind (m := checkCount "sorted" 1 1 _) (wpAny_pure ?_)
  refine wpAny_bind (PySem.W.kdu_collect (A := X.A.in1) (kdl_raw hs hx hdt) (I.ok.hd hcalm) ho (by omega) fun h' tk acc hk it => ?_)
  have ea : acc.toList = (vs.map fun x => x.2.1).map Value.ref := by
    have hl : acc.toList.length = vs.length := by rw [Array.length_toList, it.1]; exact l1
    apply List.ext_getElem?
    intro j
    rw [List.getElem?_map, List.getElem?_map]
    cases hj : acc.toList[j]? with
    | none =>
      have h1 := List.getElem?_eq_none_iff.mp hj
      rw [List.getElem?_eq_none (by omega)]
      rfl
    | some v =>
      obtain ⟨en, hen, hv⟩ := it.2 j v (by rw [← Array.getElem?_toList]; exact hj)
      have qe := entry_at he j
      rw [hen] at qe
      cases hb : vs[j]? with
      | none =>
        rw [hb] at qe
        exact nomatch (show some en = none from qe)
      | some b =>
        rw [hb] at qe
        have e2 : en = entryOfKey (tupleKind (mixKind X.prog X.w)) b := Option.some.inj qe
        rw [hv, e2]
        rfl
  have rv : Vals ((vs.map fun x => x.2.1).map V.ref) acc.toList := by rw [ea]; exact vals_refs _
  have hok := keys_srt (isKeys_of pr) hks
  have hlen : acc.toList.length = ks.length := by rw [ea, List.length_map, List.length_map]; omega
  have I1 : Inv X pins σ H { s with heap := h', toks := tk } := I.kept hk
  refine wpAny_bind (wpAny_newList ?_ (by rw [hlen]; exact small_le (by omega)))
  have hoL : (h'.push (seqObj "list" acc.toList.toArray 0)).get? h'.objs.size = some (seqObj "list" acc.toList.toArray 0) := Heap.get?_push_size _ rfl
  show wpAny _ _ _ _ _ { s with heap := h'.push (seqObj "list" acc.toList.toArray 0), toks := tk }
  have I2 : Inv X pins σ H { s with heap := h'.push (seqObj "list" acc.toList.toArray 0), toks := tk } := I1.kept (t' := tk) fun b o e => Heap.get?_push_of_some _ e
  have e := each_mk (H := H) rv hok
  refine wpAny_bind (wpAny_holding (PySem.W.list_sort_data (enc := Datum.toD) (s := { s with heap := h'.push (seqObj "list" acc.toList.toArray 0), toks := tk }) hoL e (e.mono fun v b hx => Exists.elim hx fun x hx => ?_) (srt_alike ks) (srt_sortable ks) (small_le (by omega)) (fun b _ => ?_) fun out ho' eo => ?_))
  · obtain ⟨as, hr⟩ := holds_of I2 (Ho.dp (K := X.K) hx.2) hx.1
    have e0 := reads_srt hr
    subst e0
    exact ⟨[], hr, by simp⟩
  · have := Datum.depth_le b
    have e1 : Datum.depth Srt = 1 := rfl
    rw [e1] at this
    show X.A.in1.units + 1 + _ < _
    have e2 : X.A.in1.units = X.A.units + 1 := rfl
    omega
  · obtain ⟨ws, rw', hw⟩ := each_split eo
    obtain ⟨e', he'⟩ := PyProof.Rows.sortedHeap_at (vs := acc.toList) (out := out.toArray) hoL
    have fr : H h'.objs.size = none := I1.hok.fresh (Nat.le_refl _)
    have hlen2 : ws.length ≤ sizeLine := by
      rw [hw.length, List.length_mergeSort]
      exact small_le (by omega)
    refine wpAny_pure ⟨_, rfl, .ref h'.objs.size, upd H h'.objs.size (.lst ws), I1.laid (t' := tk) (fun b u e => ?_) (Nat.le_refl _)
      (show ObjOk X.prog X.w _ _ _ (.lst ws) from ⟨hlen2, out, e', rw', he'⟩), rfl, q _ _ (Same.new fr) fr (Ls.new fr hw)⟩
    have hb : b < h'.objs.size := Heap.lt_size e
    rw [PyProof.Rows.sortedHeap_old (Nat.ne_of_lt hb) (by rw [size_push']; exact Nat.lt_succ_of_lt hb)]
    exact Heap.get?_push_of_some _ e
end Sly

set_option Elab.async false
set_option linter.all false
set_option maxRecDepth 100000
set_option maxHeartbeats 4000000
/-! Walks of the law's own defs: _law_cell_at, _law_draws, _law_bag, _law_bags, _law_take. -/
namespace Sly
open PySem PySem.Spec PyProof.Rows L2
open PySem.W (Datum DatumOrd Tup T3)
theorem iteN {c : Bool} {A B : Prop} (e : ¬ c = true) (h : B) : if c = true then A else B := by
  rw [if_neg e]
  exact h
section
variable {P : Program} {w : PySem.World} {K : PySem.W.Frag} {mg : Str → Option Value} {base : Heap}
def spCellAt : Sp := fun vs H Q _ => ∃ (a : Addr) (ns : List Int) (k : Nat), vs = [.ref a, .int k] ∧ SqL K H a (ns.map V.int) ∧ ∀ n, Q (.int n) H
theorem ok_cell_at {f : Addr} {fd : FuncData} {l : Nat} (F : Fun K "_law_cell_at" "_law_cell_at" sLawCellAt f fd) (B : Blt mg) : FnOk P w K mg base CX0 (l + 1) f fd ["script", "k"] (spCellAt (K := K)) := by
  refine F.ok scLawCellAt (fun vs H Q E h => ?_) (fun cdv A outer s H vs Q E hr h => ?_)
  · obtain ⟨a, ns, k, rfl, _⟩ := h
    rfl
  · obtain ⟨a, ns, k, rfl, ha, q⟩ := h
    refine ⟨_, pss_cons (ps_if (pt_cmpR op_lt (pv 1) (pe_callB call_len_seq (by rfl) B.len b_len (pa_cons (pv 0) pa_nil)) (nomark _)) (pss_one (ps_ret (pe_ix ix_list (pv 0) (pv 1) (fun _ _ => rfl)))) pss_nil)
      (pss_one (ps_ret pe_int)), ?_⟩
    refine ⟨_, rfl, _, rfl, a, _, rfl, .inl ha, _, _, rfl, rfl, _, rfl, ite2 (fun e => ?_) (fun e => ?_)⟩
    · have hk : k < ns.length := by
        have e' := of_decide_eq_true e
        rw [List.length_map] at e'
        omega
      refine ⟨_, rfl, _, rfl, a, _, (k : Int), .int ns[k], rfl, rfl, ha, atI_nat (j := k) (by rw [List.getElem?_map, List.getElem?_eq_getElem hk]; rfl), q _⟩
    · exact q 0
/-! ### _law_draws -/
def spDraws : Sp := fun vs H Q _ => ∃ (c : Int), vs = [.int c, .int 400, .int 1000] ∧ ∀ q H' (ds : List Int), Same H H' → H q = none → H' q = some (.lst (ds.map V.int)) → ds.length = 400 → Q (.ref q) H'
theorem ok_draws {f : Addr} {fd : FuncData} {l : Nat} (F : Fun K "_law_draws" "_law_draws" sLawDraws f fd) (B : Blt mg) : FnOk P w K mg base CX0 (l + 1) f fd ["cell", "many", "size"] spDraws := by
  refine F.ok scLawDraws (fun vs H Q E h => ?_) (fun cdv A outer s H vs Q E hr h => ?_)
  · obtain ⟨c, rfl, _⟩ := h
    rfl
  · obtain ⟨c, rfl, q⟩ := h
    have nd := scLawDraws.nd
    refine ⟨_, pss_cons (ps_set (i := 3) nd rfl (.inl rfl) (pe_lst pa_nil))
      (pss_cons (ps_set (i := 4) nd rfl (.inl rfl) (pe_op op_mul (pv 0) (pe_callTy call_int1 (by rfl) B.int b_int (pa_cons (pe_cmpR op_ge (pv 0) (pe_op op_pow pe_int pe_int) (nomark _)) pa_nil))))
      (pss_cons (ps_set (i := 5) nd rfl (.inl rfl) (pe_op op_mod (pv 0) pe_int))
      (pss_cons (ps_for PassesOwn.never rfl (pi_range1 (by rfl) B.range (pa_cons (pe_op op_add (pv 1) pe_int) pa_nil)) (pg_name (i := 6) nd rfl (.inl rfl))
        (pss_cons (ps_set (i := 5) nd rfl (.inl rfl) (pe_op op_mod (pe_op op_add (pe_op op_add (pe_op op_add (pe_op op_mul (pv 5) (pv 5)) (pe_op op_mul pe_int (pv 5))) (pv 6)) pe_int) pe_int))
        (pss_one (ps_if (PW.pt (pw_and (pt_cmpR op_gt (pv 6) pe_int (nomark _)) (pw_and1 (pt_cmpR op_gt (pv 4) pe_int (nomark _)))))
          (pss_cons (ps_expr (pe_bm PySem.F.plainAttrs_list PySem.F.slot_list_append PySem.F.type_list_append mt_append (pv 3) (pa_cons (pe_op op_mod (pv 4) (pv 2)) pa_nil)))
            (pss_one (ps_set (i := 4) nd rfl (.inl rfl) (pe_op op_fdiv (pv 4) (pv 2)))))
          (pss_one (ps_if (pt_cmpR op_gt (pv 6) pe_int (nomark _))
            (pss_one (ps_expr (pe_bm PySem.F.plainAttrs_list PySem.F.slot_list_append PySem.F.type_list_append mt_append (pv 3) (pa_cons (pe_op op_mod (pe_op op_fdiv (pv 5) pe_int) (pv 2)) pa_nil)))) pss_nil))))))
      (pss_one (ps_ret (pv 3)))))), ?_⟩
    refine ⟨small_le (by show 0 ≤ 1000000; decide), fun D hD => ?_⟩
    have sD : Same H (upd H D (.lst [])) := Same.new hD
    refine ⟨_, rfl, _, rfl, _, _, rfl, rfl, ⟨by decide, by decide, by decide⟩, _, _, rfl, rfl, .inr ⟨_, rfl, _, _, rfl, rfl, .inr ?_, ?_⟩⟩
    · by_cases e : decide ((10 : Int) ^ (18 : Int).toNat ≤ c) = true
      · rw [if_pos e]
        decide
      · rw [if_neg e]
        decide
    refine ⟨_, rfl, _, _, rfl, rfl, (by show (0 : Int) < 2305843009213693951; decide), ?_⟩
    have b1 : 0 ≤ c % 2305843009213693951 := Int.emod_nonneg _ (by decide)
    have b2 : c % 2305843009213693951 < 2305843009213693951 := Int.emod_lt_of_pos _ (by decide)
    refine ⟨_, rfl, _, _, rfl, rfl, (403 : Int), rfl, by decide, by decide, for_range (n := 403) (fun i σ H' => ∃ (rest st : Int) (yk : Option V), σ = [some (.int c), some (.int 400), some (.int 1000), some (.ref D), some (.int rest), some (.int st), yk] ∧ 0 ≤ st ∧ st < 2305843009213693951 ∧ Same H H' ∧
        ∃ ds : List Int, H' D = some (.lst (ds.map V.int)) ∧ ds.length = i - 3)
      ⟨_, _, none, rfl, b1, b2, sD, [], upd_same, rfl⟩ ?_ ?_⟩
    · rintro i σ H1 hi ⟨rest, st, yk, rfl, c1, c2, s1, ds, e1, hl⟩
      have app : ∀ (d : Int) (r' st' : Int), 0 ≤ st' → st' < 2305843009213693951 → 2 < i → (∃ (rest st : Int) (yk : Option V), [some (V.int c), some (.int 400), some (.int 1000), some (.ref D), some (.int r'), some (.int st'), some (.int (0 + (i : Int)))] = [some (.int c), some (.int 400), some (.int 1000), some (.ref D), some (.int rest), some (.int st), yk] ∧ 0 ≤ st ∧ st < 2305843009213693951 ∧ Same H (upd H1 D (.lst (ds.map V.int ++ [.int d]))) ∧
          ∃ ds' : List Int, (upd H1 D (.lst (ds.map V.int ++ [.int d]))) D = some (.lst (ds'.map V.int)) ∧ ds'.length = i + 1 - 3) := fun d r' st' q1 q2 q3 =>
        ⟨r', st', _, rfl, q1, q2, Same.mut s1 hD, ds ++ [d], by rw [upd_same, List.map_append]; rfl, by rw [List.length_append, List.length_singleton]; omega⟩
      refine ⟨_, rfl, _, rfl, _, _, rfl, rfl, .inl ⟨by omega, by omega⟩, _, rfl, _, _, rfl, rfl, .inl ⟨by decide, by decide⟩, _, _, rfl, rfl, _, rfl, _, _, rfl, rfl, _, _, rfl, rfl, _, _, rfl, rfl, (by show (0 : Int) < 2305843009213693951; decide), ?_⟩
      have b1 : 0 ≤ (st * st + 48271 * st + (0 + (i : Int)) + 1) % 2305843009213693951 := Int.emod_nonneg _ (by decide)
      have b2 : (st * st + 48271 * st + (0 + (i : Int)) + 1) % 2305843009213693951 < 2305843009213693951 := Int.emod_lt_of_pos _ (by decide)
      refine ⟨_, rfl, _, _, rfl, rfl, _, rfl, ite2 (fun e => ?_) (fun e => ?_)⟩
      · have hi2 : 2 < i := by
          have := of_decide_eq_true e
          omega
        refine ⟨_, rfl, _, _, rfl, rfl, _, rfl, ite2 (fun e2 => ?_) (fun e2 => ?_)⟩
        · refine ⟨_, rfl, .inl ⟨rfl, _, SqL.of e1⟩, _, rfl, _, rfl, _, _, rfl, rfl, (by show (0 : Int) < 1000; decide), D, _, _, rfl, rfl, e1, small_of (by rw [List.length_map]; omega), ?_⟩
          refine ⟨_, rfl, _, rfl, _, _, rfl, rfl, ⟨by decide, by decide⟩, ?_⟩
          exact app _ _ _ b1 b2 hi2
        · refine ⟨_, rfl, _, _, rfl, rfl, _, rfl, iteT' e ?_⟩
          refine ⟨_, rfl, .inl ⟨rfl, _, SqL.of e1⟩, _, rfl, _, _, rfl, rfl, ⟨by decide, by decide⟩, _, rfl, _, _, rfl, rfl, (by show (0 : Int) < 1000; decide), D, _, _, rfl, rfl, e1, small_of (by rw [List.length_map]; omega), ?_⟩
          exact app _ _ _ b1 b2 hi2
      · refine ⟨_, rfl, _, _, rfl, rfl, _, rfl, iteN e ?_⟩
        have hi2 : ¬ 2 < i := fun z => e (decide_eq_true (by omega))
        exact ⟨rest, _, _, rfl, b1, b2, s1, ds, e1, by omega⟩
    · rintro σ H1 ⟨rest, st, yk, rfl, c1, c2, s1, ds, e1, hl⟩
      exact ⟨_, rfl, q D H1 ds s1 hD e1 hl⟩
end
end Sly

set_option Elab.async false
set_option linter.all false
set_option maxRecDepth 100000
set_option maxHeartbeats 4000000
/-! Walks of the law's own defs: _law_bag, _law_bags, _law_take. -/
namespace Sly
open PySem PySem.Spec PyProof.Rows L2
open PySem.W (Datum DatumOrd Tup T3)
/-- a bag: a list of draws, how many were taken -/
def BagAt (H : Hp) (b : Addr) : Prop := ∃ (d : Addr) (ds : List Int) (c : Int), H b = some (.lst [.ref d, .int c]) ∧ H d = some (.lst (ds.map V.int)) ∧ 0 ≤ c ∧ 0 < ds.length ∧ ds.length ≤ 1000
/-- all but the object at b stays -/
def Keep (b : Addr) (H H' : Hp) : Prop := ∀ a o, a ≠ b → H a = some o → H' a = some o
theorem Keep.refl (b : Addr) (H : Hp) : Keep b H H := fun _ _ _ e => e
theorem Keep.trans {b : Addr} {H H1 H2 : Hp} (x : Keep b H H1) (y : Keep b H1 H2) : Keep b H H2 := fun a o n e => y a o n (x a o n e)
theorem Keep.of {b : Addr} {H H' : Hp} (s : Same H H') : Keep b H H' := fun a o _ e => s a o e
theorem Keep.free {b p : Addr} {H H' : Hp} (k : Keep b H H') (hb : p ≠ b) (h : H' p = none) : H p = none := by
  cases e : H p with
  | none => rfl
  | some o => rw [k p o hb e] at h; cases h
/-- what H does not know may change -/
theorem Keep.mut {b p : Addr} {H H' : Hp} {o : HO} (k : Keep b H H') (h : H p = none) : Keep b H (upd H' p o) := fun a x n e => by
  rw [upd_ne (ne_of_none e h)]
  exact k a x n e
theorem BagAt.ne {H : Hp} {b p : Addr} {o : HO} (h : BagAt H b) (hp : H p = some o) (hn : ∀ d c, o ≠ .lst [.ref d, .int c]) : p ≠ b := by
  obtain ⟨d, ds, c, e, _⟩ := h
  intro z
  rw [z, e] at hp
  exact hn d c (Option.some.inj hp).symm
theorem BagAt.some {H : Hp} {b : Addr} (h : BagAt H b) : ∃ o, H b = some o := by
  obtain ⟨d, ds, c, e, _⟩ := h
  exact ⟨_, e⟩
theorem BagAt.fresh {H : Hp} {b p : Addr} (h : BagAt H b) (hp : H p = none) : p ≠ b := by
  obtain ⟨o, e⟩ := h.some
  exact fun z => by
    rw [z, e] at hp
    cases hp
theorem BagAt.up {H H' : Hp} {b : Addr} (h : BagAt H b) (s : Same H H') : BagAt H' b := by
  obtain ⟨d, ds, c, e, e2, r⟩ := h
  exact ⟨d, ds, c, s _ _ e, s _ _ e2, r⟩
theorem ints_ne (ds : List Int) (d : Addr) (r : List V) : ds.map V.int ≠ V.ref d :: r := fun e => by
  cases ds with
  | nil => cases e
  | cons x y => cases e
/-- another bag -/
theorem BagAt.keep {H H' : Hp} {b c : Addr} (h : BagAt H c) (k : Keep b H H') (hb : BagAt H b) (n : c ≠ b) : BagAt H' c := by
  obtain ⟨d, ds, m, e, e2, r⟩ := h
  refine ⟨d, ds, m, k _ _ n e, k _ _ (hb.ne e2 fun d' c' z => ?_) e2, r⟩
  injection z with z
  exact ints_ne ds d' _ z
theorem Keep.t {b : Addr} {H H' : Hp} (k : Keep b H H') (h : BagAt H b) : TSame H H' := fun a xs e => k a _ (h.ne e fun _ _ z => nomatch z) e
section
variable {α : Type} [DecidableEq α] [Datum α]
theorem Ho.keep {b : Addr} {H H' : Hp} {v : V} {x : α} (g : Ho H v x) (k : Keep b H H') (h : BagAt H b) : Ho H' v x := g.mono (k.t h)
theorem HoA.keep {b : Addr} {H H' : Hp} {v : List V} {x : List α} (g : HoA H v x) (k : Keep b H H') (h : BagAt H b) : HoA H' v x := g.mono (k.t h)
theorem Ls.keep {b p : Addr} {H H' : Hp} {x : List α} (g : Ls H p x) (k : Keep b H H') (h : BagAt H b) (n : p ≠ b) : Ls H' p x := by
  obtain ⟨vs, e, g⟩ := g
  exact ⟨vs, k _ _ n e, g.keep k h⟩
end
theorem sqL_up {K : PySem.W.Frag} {H H' : Hp} {a : Addr} {xs : List V} (h : SqL K H a xs) (s : Same H H') : SqL K H' a xs :=
  h.elim (fun h => .inl (h.elim (fun h => .inl (s _ _ h)) fun ⟨o, h⟩ => .inr ⟨o, s _ _ h⟩)) fun h => .inr h
section
variable {P : Program} {w : PySem.World} {K : PySem.W.Frag} {mg : Str → Option Value} {base : Heap}
/-! ### _law_bag -/
def spBag (K : PySem.W.Frag) : Sp := fun vs H Q _ => ∃ (a : Addr) (ns : List Int) (k : Nat), vs = [.ref a, .int k] ∧ SqL K H a (ns.map V.int) ∧ ∀ q H', Same H H' → H q = none → BagAt H' q → Q (.ref q) H'
theorem ok_bag {f fD fC : Addr} {fd fdD fdC : FuncData} (F : Fun K "_law_bag" "_law_bag" sLawBag f fd)
    (GD : FnOk P w K mg base CX0 1 fD fdD ["cell", "many", "size"] spDraws) (kD : PySem.W.keepIn K (.ref fD) = true) (bD : Binds K fdD ["cell", "many", "size"] []) (gD : mg "_law_draws" = some (.ref fD))
    (GC : FnOk P w K mg base CX0 1 fC fdC ["script", "k"] (spCellAt (K := K))) (kC : PySem.W.keepIn K (.ref fC) = true) (bC : Binds K fdC ["script", "k"] []) (gC : mg "_law_cell_at" = some (.ref fC)) :
    FnOk P w K mg base CX0 2 f fd ["script", "k"] (spBag K) := by
  refine F.ok scLawBag (fun vs H Q E h => ?_) (fun cdv A outer s H vs Q E hr h => ?_)
  · obtain ⟨a, ns, k, rfl, _⟩ := h
    rfl
  · obtain ⟨a, ns, k, rfl, ha, q⟩ := h
    refine ⟨_, pss_one (ps_ret (pe_lst (pa_cons (pe_call GD hr (by rfl) gD kD bD .nil pass0 (pa_cons (pe_call GC hr (by rfl) gC kC bC .nil pass0 (pa_cons (pv 0) (pa_cons (pv 1) pa_nil))) (pa_cons pe_int (pa_cons pe_int pa_nil)))) (pa_cons pe_int pa_nil)))), ?_⟩
    refine ⟨_, rfl, _, rfl, a, ns, k, rfl, ha, fun n => ?_⟩
    refine ⟨n, rfl, fun d H1 ds s1 n1 e1 l1 => ?_⟩
    refine ⟨small_le (by show 2 ≤ 1000000; decide), fun l hl => ?_⟩
    have s2 : Same H1 (upd H1 l (.lst [.ref d, .int 0])) := Same.new hl
    exact q l _ (Same.trans s1 s2) (s1.free hl) ⟨d, ds, 0, upd_same, s2 _ _ e1, by decide, by omega, by omega⟩
/-! ### _law_take -/
def spTake : Sp := fun vs H Q _ => ∃ (b : Addr) (m : Int), vs = [.ref b, .int m] ∧ BagAt H b ∧ 0 < m ∧ ∀ r H', 0 ≤ r → r < m → Keep b H H' → BagAt H' b → Q (.int r) H'
theorem ok_take {f : Addr} {fd : FuncData} {l : Nat} (F : Fun K "_law_take" "_law_take" sLawTake f fd) (B : Blt mg) : FnOk P w K mg base CX0 (l + 1) f fd ["bag", "many"] spTake := by
  refine F.ok scLawTake (fun vs H Q E h => ?_) (fun cdv A outer s H vs Q E hr h => ?_)
  · obtain ⟨b, m, rfl, _⟩ := h
    rfl
  · obtain ⟨b, m, rfl, hb, hm, q⟩ := h
    obtain ⟨d, ds, c, e1, e2, c0, l0, l1⟩ := hb
    refine ⟨_, pss_cons (ps_asg (pe_op op_add (pe_ix ix_list (pv 0) pe_int (fun _ _ => rfl)) pe_int) (pg_sub (pv 0) pe_int set_list (fun _ => rfl)))
      (pss_one (ps_ret (pe_op op_mod (pe_ix ix_list (pe_ix ix_list (pv 0) pe_int (fun _ _ => rfl)) (pe_op op_mod (pe_ix ix_list (pv 0) pe_int (fun _ _ => rfl)) (pe_callB call_len_seq (by rfl) B.len b_len (pa_cons (pe_ix ix_list (pv 0) pe_int (fun _ _ => rfl)) pa_nil))) (fun _ _ => rfl)) (pv 1)))), ?_⟩
    have ne : d ≠ b := fun z => by
      rw [z, e1] at e2
      injection e2 with e2
      injection e2 with e2
      exact ints_ne ds d _ e2.symm
    refine ⟨_, rfl, b, _, 1, _, rfl, rfl, SqL.of e1, atI_nat (j := 1) rfl, _, _, rfl, rfl, _, rfl, b, _, 1, 1, rfl, rfl, e1, rfl, ?_⟩
    have f1 : upd H b (.lst [.ref d, .int (c + 1)]) b = some (.lst [.ref d, .int (c + 1)]) := upd_same
    have f2 : upd H b (.lst [.ref d, .int (c + 1)]) d = some (.lst (ds.map V.int)) := by
      rw [upd_ne ne]
      exact e2
    have hb' : BagAt (upd H b (.lst [.ref d, .int (c + 1)])) b := ⟨d, ds, c + 1, f1, f2, by omega, l0, l1⟩
    have hlen : (0 : Int) < ((ds.map V.int).length : Nat) := by
      rw [List.length_map]
      omega
    have j0 : 0 ≤ (c + 1) % (((ds.map V.int).length : Nat) : Int) := Int.emod_nonneg _ (by omega)
    have j1 : (c + 1) % (((ds.map V.int).length : Nat) : Int) < ((ds.map V.int).length : Nat) := Int.emod_lt_of_pos _ hlen
    obtain ⟨j, ej⟩ : ∃ j : Nat, (c + 1) % (((ds.map V.int).length : Nat) : Int) = (j : Int) := ⟨_, (Int.toNat_of_nonneg j0).symm⟩
    have jl : j < ds.length := by
      rw [ej] at j1
      rw [List.length_map] at j1
      omega
    refine ⟨_, rfl, b, _, 0, _, rfl, rfl, SqL.of f1, atI_nat (j := 0) rfl, _, rfl, b, _, 1, _, rfl, rfl, SqL.of f1, atI_nat (j := 1) rfl, _, rfl, b, _, 0, _, rfl, rfl, SqL.of f1, atI_nat (j := 0) rfl, d, _, rfl, .inl (SqL.of f2), _, _, rfl, rfl, hlen, ?_⟩
    refine ⟨d, _, (j : Int), .int ds[j], rfl, congrArg V.int ej, SqL.of f2, atI_nat (j := j) (by rw [List.getElem?_map, List.getElem?_eq_getElem jl]; rfl), _, rfl, _, _, rfl, rfl, hm, ?_⟩
    refine q _ _ (Int.emod_nonneg _ (by omega)) (Int.emod_lt_of_pos _ hm) (fun a o n e => ?_) hb'
    show upd H b _ a = _
    rw [upd_ne n]
    exact e
end
end Sly

set_option Elab.async false
set_option linter.all false
set_option maxRecDepth 100000
set_option maxHeartbeats 4000000
/-! Walks: _law_bags. -/
namespace Sly
open PySem PySem.Spec PyProof.Rows L2
open PySem.W (Datum DatumOrd Tup T3)
section
variable {P : Program} {w : PySem.World} {K : PySem.W.Frag} {mg : Str → Option Value} {base : Heap}
def spBags (K : PySem.W.Frag) : Sp := fun vs H Q _ => ∃ (a : Addr) (ns : List Int), vs = [.ref a, .int 6] ∧ SqL K H a (ns.map V.int) ∧
  ∀ q H' (bs : List Addr), Same H H' → H q = none → H' q = some (.lst (bs.map V.ref)) → bs.Nodup → (∀ b ∈ bs, BagAt H' b ∧ H b = none) → bs.length ≤ 100 → Q (.ref q) H'
theorem ok_bags {f fB : Addr} {fd fdB : FuncData} (F : Fun K "_law_bags" "_law_bags" sLawBags f fd) (B : Blt mg)
    (GB : FnOk P w K mg base CX0 2 fB fdB ["script", "k"] (spBag K)) (kB : PySem.W.keepIn K (.ref fB) = true) (bB : Binds K fdB ["script", "k"] []) (gB : mg "_law_bag" = some (.ref fB)) :
    FnOk P w K mg base CX0 3 f fd ["script", "limit"] (spBags K) := by
  refine F.ok scLawBags (fun vs H Q E h => ?_) (fun cdv A outer s H vs Q E hr h => ?_)
  · obtain ⟨a, ns, rfl, _⟩ := h
    rfl
  · obtain ⟨a, ns, rfl, ha, q⟩ := h
    have nd := scLawBags.nd
    refine ⟨_, pss_one (ps_ret (pe_lc (own := [("k", 2)]) (g := gName 2) (tt := tYes) (te := tCall (spBag K) [] E0 (tCons (tVar 0) (tCons (tVar 2) tNil))) rfl nd (pi_range1 (by rfl) B.range (pa_cons (pe_callB (call_max2 rfl) (by rfl) B.max b_max (pa_cons pe_int (pa_cons (pe_callB (call_min2 rfl) (by rfl) B.min b_min (pa_cons (pv 1) (pa_cons (pe_callB call_len_seq (by rfl) B.len b_len (pa_cons (pv 0) pa_nil)) pa_nil))) pa_nil))) pa_nil))
      (blkOk_by (N := nLawBags) (sc := defScope sLawBags) (by decide +kernel)) (fun _ _ _ _ _ => pg_name (i := 2) nd rfl (.inl rfl)) (fun _ _ _ _ _ => pts_nil)
      (fun _ _ _ _ _ => pe_call GB hr (by rfl) gB kB bB .nil pass0 (pa_cons (pv 0) (pa_cons (pv 2) pa_nil))))), ?_⟩
    have key : ∀ m : Int, 0 ≤ m → ∃ j : Int, j = (if (if m < 6 then m else 6) > 1 then (if m < 6 then m else 6) else 1) ∧ 1 ≤ j ∧ j ≤ 6 := fun m hm => ⟨_, rfl, by split <;> split <;> omega, by split <;> split <;> omega⟩
    obtain ⟨j, ej, j1, j6⟩ := key ((ns.map V.int).length : Nat) (by omega)
    refine ⟨_, rfl, _, rfl, a, _, rfl, .inl ha, _, _, rfl, _, _, rfl, j, ?_, by omega, by omega, fun D hD => ?_⟩
    · rw [ej]
    refine lc_it (walk_range (lo := 0) (n := j.toNat)) (fun i H' => Same H H' ∧ ∃ bs : List Addr, H' D = some (.lst (bs.map V.ref)) ∧ bs.length = i ∧ bs.Nodup ∧ D ∉ bs ∧ ∀ b ∈ bs, BagAt H' b ∧ H b = none) ⟨Same.new hD, [], upd_same, rfl, List.nodup_nil, by simp, by simp⟩ (fun _ _ _ _ => trivial) ?_ ?_
    · rintro i x H1 H2 hi ⟨s1, bs, e1, l1, nd1, nD, hb1⟩ ⟨rfl, rfl⟩
      refine ⟨rfl, yes ?_⟩
      refine ⟨_, rfl, _, rfl, a, ns, i, by show [V.ref a, V.int (0 + (i : Int))] = _; rw [Int.zero_add], sqL_up ha s1, fun b H3 s3 n3 hb3 => ?_⟩
      have e3 := s3 _ _ e1
      refine ⟨_, e3, small_of (by rw [List.length_map]; omega), Same.mut (Same.trans s1 s3) hD, bs ++ [b], by rw [upd_same, List.map_append]; rfl, by rw [List.length_append, List.length_singleton, l1], ?_, ?_, ?_⟩
      · rw [List.nodup_append]
        refine ⟨nd1, by simp, fun x hx y hy e => ?_⟩
        have ey : y = b := by simpa using hy
        subst ey
        subst e
        obtain ⟨o, eo⟩ := (hb1 x hx).1.some
        rw [eo] at n3
        cases n3
      · intro hm
        rcases List.mem_append.mp hm with hm | hm
        · exact nD hm
        · have ey : D = b := by simpa using hm
          rw [← ey, e1] at n3
          cases n3
      · intro c hc
        have hk : Keep D H3 (upd H3 D (.lst ((bs.map V.ref) ++ [.ref b]))) := fun a o n e => by
          rw [upd_ne n]
          exact e
        have put : ∀ c, BagAt H3 c → c ≠ D → BagAt (upd H3 D (.lst ((bs.map V.ref) ++ [.ref b]))) c := fun c hc n => by
          obtain ⟨d, ds, m, g1, g2, r⟩ := hc
          refine ⟨d, ds, m, hk _ _ n g1, hk _ _ (fun z => ?_) g2, r⟩
          rw [z, e3] at g2
          injection g2 with g2
          injection g2 with g2
          cases bs with
          | nil =>
            have := r.2.1
            cases ds with
            | nil => simp at this
            | cons u v => cases g2
          | cons u v => exact ints_ne ds u _ g2.symm
        rcases List.mem_append.mp hc with hm | hm
        · exact ⟨put c ((hb1 c hm).1.up s3) (fun z => nD (z ▸ hm)), (hb1 c hm).2⟩
        · have ey : c = b := by simpa using hm
          subst ey
          exact ⟨put c hb3 (fun z => by rw [z, e1] at n3; cases n3), s1.free n3⟩
    · rintro H1 ⟨s1, bs, e1, l1, nd1, nD, hb1⟩
      exact q D H1 bs s1 hD e1 nd1 hb1 (by omega)
end
end Sly

set_option Elab.async false
set_option linter.all false
set_option maxRecDepth 100000
set_option maxHeartbeats 4000000
/-! Walks: _law_sorts. -/
namespace Sly
open PySem PySem.Spec PyProof.Rows L2
open PySem.W (Datum DatumOrd Tup T3 dataLe)
theorem put_keys {κ β : Type} [DecidableEq κ] [DecidableEq β] {key : β → κ} (inj : ∀ a b, key a = key b → a = b) {kvs : List (κ × V)} {xs : List β} {x : β} {v : V} (h : kvs.map (·.1) = xs.map key) (nd : xs.Nodup) :
    ∃ ys : List β, (putK kvs (key x) v).map (·.1) = ys.map key ∧ ys.Nodup ∧ ys.length ≤ xs.length + 1 ∧ 0 < ys.length ∧ ∀ y ∈ ys, y = x ∨ y ∈ xs := by
  by_cases hm : x ∈ xs
  · refine ⟨xs, ?_, nd, by omega, List.length_pos_of_mem hm, fun y hy => .inr hy⟩
    rw [← h]
    unfold putK
    have : (kvs.any fun kv => decide (kv.1 = key x)) = true := by
      rw [List.any_eq_true]
      have hk : key x ∈ kvs.map (·.1) := by rw [h]; exact List.mem_map_of_mem hm
      obtain ⟨p, hp, e⟩ := List.mem_map.mp hk
      exact ⟨p, hp, decide_eq_true e⟩
    rw [if_pos this, List.map_map]
    refine List.map_congr_left fun p _ => ?_
    show (if p.1 = key x then (p.1, v) else p).1 = p.1
    split <;> rfl
  · refine ⟨xs ++ [x], ?_, ?_, by rw [List.length_append, List.length_singleton]; exact Nat.le_refl _, by rw [List.length_append, List.length_singleton]; omega, fun y hy => ?_⟩
    · have hn : ¬ (kvs.any fun kv => decide (kv.1 = key x)) = true := by
        rw [List.any_eq_true]
        rintro ⟨p, hp, e⟩
        have hk : p.1 ∈ kvs.map (·.1) := List.mem_map_of_mem hp
        rw [h] at hk
        obtain ⟨y, hy, ey⟩ := List.mem_map.mp hk
        rw [of_decide_eq_true e] at ey
        rw [inj _ _ ey] at hy
        exact hm hy
      unfold putK
      rw [if_neg hn, List.map_append, List.map_append, h]
      rfl
    · rw [List.nodup_append]
      refine ⟨nd, by simp, fun a ha c hc e => ?_⟩
      have ec : c = x := by simpa using hc
      subst ec
      subst e
      exact hm ha
    · rcases List.mem_append.mp hy with q | q
      · exact .inr q
      · exact .inl (by simpa using q)
theorem srt_key_inj : ∀ a b : Srt, a.key = b.key → a = b
  | ⟨s, none⟩, ⟨t, none⟩, e => by
    have e' : [Sum.inr s] = ([Sum.inr t] : List L2.Key) := e
    injection e' with e1
    injection e1 with e1
    rw [e1]
  | ⟨s, none⟩, ⟨t, some n⟩, e => by
    have e' : [Sum.inr s] = ([Sum.inr t, Sum.inl n] : List L2.Key) := e
    injection e' with _ e2
    cases e2
  | ⟨s, some m⟩, ⟨t, none⟩, e => by
    have e' : [Sum.inr s, Sum.inl m] = ([Sum.inr t] : List L2.Key) := e
    injection e' with _ e2
    cases e2
  | ⟨s, some m⟩, ⟨t, some n⟩, e => by
    have e' : [Sum.inr s, Sum.inl m] = ([Sum.inr t, Sum.inl n] : List L2.Key) := e
    injection e' with e1 e2
    injection e1 with e1
    injection e2 with e2
    injection e2 with e2
    rw [e1, e2]
theorem Ho.newSrt {H : Hp} {a : Addr} {s : Srt} (n : H a = none) : Ho (upd H a (.tup (s.key.map kV))) (.ref a) s := Ho.srt upd_same
/-- the sorts of one scale -/
def SrtsOk (ss : List Srt) : Prop := 0 < ss.length ∧ ss.length ≤ 4 ∧ ss.Pairwise (fun a b => Srt.lt a b = true) ∧ ∀ n ∈ ss, SrtOk n
def base5 : List Srt := [⟨"true", none⟩, ⟨"lies", none⟩, ⟨"echo", none⟩, ⟨"turns", some 0⟩, ⟨"turns", some 1⟩]
def base8 (i j k : Int) : List Srt := base5 ++ [⟨"leans", some i⟩, ⟨"leans", some j⟩] ++ [⟨"sticks", some k⟩]
theorem base8_ok {i j k : Int} (h1 : -9 ≤ i ∧ i ≤ 9) (h2 : -9 ≤ j ∧ j ≤ 9) (h3 : -9 ≤ k ∧ k ≤ 9) : ∀ x ∈ base8 i j k, SrtOk x := by
  intro x hx
  have e : base8 i j k = [⟨"true", none⟩, ⟨"lies", none⟩, ⟨"echo", none⟩, ⟨"turns", some 0⟩, ⟨"turns", some 1⟩, ⟨"leans", some i⟩, ⟨"leans", some j⟩, ⟨"sticks", some k⟩] := rfl
  rw [e] at hx
  simp only [List.mem_cons, List.not_mem_nil, or_false] at hx
  rcases hx with rfl | rfl | rfl | rfl | rfl | rfl | rfl | rfl
  · exact .inl ⟨rfl, rfl⟩
  · exact .inr (.inl ⟨rfl, rfl⟩)
  · exact .inr (.inr (.inl ⟨rfl, rfl⟩))
  · exact .inr (.inr (.inr (.inl ⟨rfl, 0, rfl, by decide, by decide⟩)))
  · exact .inr (.inr (.inr (.inl ⟨rfl, 1, rfl, by decide, by decide⟩)))
  · exact .inr (.inr (.inr (.inr (.inl ⟨rfl, i, rfl, h1⟩))))
  · exact .inr (.inr (.inr (.inr (.inl ⟨rfl, j, rfl, h2⟩))))
  · exact .inr (.inr (.inr (.inr (.inr ⟨rfl, k, rfl, h3⟩))))
/-- an object that is no list is written -/
theorem BagAt.put {H : Hp} {b p : Addr} {o : HO} (h : BagAt H b) (hp : ∀ xs, H p ≠ Option.some (.lst xs)) : BagAt (upd H p o) b := by
  obtain ⟨d, ds, c, e1, e2, r⟩ := h
  refine ⟨d, ds, c, ?_, ?_, r⟩
  · rw [upd_ne (fun z => hp _ (z ▸ e1))]
    exact e1
  · rw [upd_ne (fun z => hp _ (z ▸ e2))]
    exact e2
section
variable {P : Program} {w : PySem.World} {K : PySem.W.Frag} {mg : Str → Option Value} {base : Heap}
def spSorts : Sp := fun vs H Q _ => ∃ (b : Addr), vs = [.ref b, .int 4, .int 9] ∧ BagAt H b ∧ ∀ v H' (ss : List Srt), Keep b H H' → BagAt H' b → Ho H' v (Tup.mk ss) → SrtsOk ss → Q v H'
theorem ok_sorts {f fT : Addr} {fd fdT : FuncData} (F : Fun K "_law_sorts" "_law_sorts" sLawSorts f fd) (B : Blt mg)
    (GT : FnOk P w K mg base CX0 1 fT fdT ["bag", "many"] spTake) (kT : PySem.W.keepIn K (.ref fT) = true) (bT : Binds K fdT ["bag", "many"] []) (gT : mg "_law_take" = some (.ref fT)) :
    FnOk P w K mg base CX0 2 f fd ["bag", "limit", "far"] spSorts := by
  refine F.ok scLawSorts (fun vs H Q E h => ?_) (fun cdv A outer s H vs Q E hr h => ?_)
  · obtain ⟨b, rfl, _⟩ := h
    rfl
  · obtain ⟨b, rfl, hb, q⟩ := h
    have nd := scLawSorts.nd
    refine ⟨_, pss_cons (ps_set (i := 3) nd rfl (.inl rfl) (pe_lst (pa_cons (pe_tup (pa_cons pe_str pa_nil)) (pa_cons (pe_tup (pa_cons pe_str pa_nil)) (pa_cons (pe_tup (pa_cons pe_str pa_nil)) (pa_cons (pe_tup (pa_cons pe_str (pa_cons pe_int pa_nil))) (pa_cons (pe_tup (pa_cons pe_str (pa_cons pe_int pa_nil))) pa_nil)))))))
      (pss_cons (ps_set (i := 3) nd rfl (.inl rfl) (pe_op op_cat (pv 3) (pe_lst (pa_cons (pe_tup (pa_cons pe_str (pa_cons (pe_op op_add pe_int (pe_call GT hr (by rfl) gT kT bT .nil pass0 (pa_cons (pv 0) (pa_cons (pv 2) pa_nil)))) pa_nil)))
          (pa_cons (pe_tup (pa_cons pe_str (pa_cons (pe_op op_sub (pe_un un_neg pe_int) (pe_call GT hr (by rfl) gT kT bT .nil pass0 (pa_cons (pv 0) (pa_cons (pv 2) pa_nil)))) pa_nil))) pa_nil)))))
      (pss_cons (ps_set (i := 3) nd rfl (.inl rfl) (pe_op op_cat (pv 3) (pe_lst (pa_cons (pe_tup (pa_cons pe_str (pa_cons (pe_op op_add pe_int (pe_call GT hr (by rfl) gT kT bT .nil pass0 (pa_cons (pv 0) (pa_cons (pv 2) pa_nil)))) pa_nil))) pa_nil))))
      (pss_cons (ps_set (i := 4) nd rfl (.inl rfl) pe_dnewT)
      (pss_cons (ps_for PassesOwn.never rfl (pi_range1 (by rfl) B.range (pa_cons (pe_op op_add pe_int (pe_call GT hr (by rfl) gT kT bT .nil pass0 (pa_cons (pv 0) (pa_cons (pv 1) pa_nil)))) pa_nil)) (pg_name (i := 5) nd rfl (.inl rfl))
        (pss_one (ps_dput (hu_of hr) (pv 4) (pe_ix ix_list (pv 3) (pe_call GT hr (by rfl) gT kT bT .nil pass0 (pa_cons (pv 0) (pa_cons (pe_callB call_len_seq (by rfl) B.len b_len (pa_cons (pv 3) pa_nil)) pa_nil))) (fun _ _ => rfl)) pe_bl rfl)))
      (pss_one (ps_ret (pe_callTy call_tuple_of (by rfl) B.tuple b_tuple (pa_cons (pe_callB (cr_sortedDT rfl hr.units) (by rfl) B.sorted b_sorted (pa_cons (pv 4) pa_nil)) pa_nil)))))))), ?_⟩
    have sm : ∀ n : Nat, n ≤ 100 → n ≤ sizeLine := fun n h => small_le (by omega)
    refine ⟨sm 1 (by decide), fun t1 n1 => ⟨sm 1 (by decide), fun t2 n2 => ⟨sm 1 (by decide), fun t3 n3 => ⟨sm 2 (by decide), fun t4 n4 => ⟨sm 2 (by decide), fun t5 n5 => ⟨sm 5 (by decide), fun L n6 => ?_⟩⟩⟩⟩⟩⟩
    have g1 := Ho.newSrt (s := ⟨"true", none⟩) n1
    have g2 := Ho.newSrt (s := ⟨"lies", none⟩) n2
    have g3 := Ho.newSrt (s := ⟨"echo", none⟩) n3
    have g4 := Ho.newSrt (s := ⟨"turns", some 0⟩) n4
    have g5 := Ho.newSrt (s := ⟨"turns", some 1⟩) n5
    have s2 : Same _ _ := Same.new (o := HO.tup [.str "lies"]) n2
    have s3 : Same _ _ := Same.new (o := HO.tup [.str "echo"]) n3
    have s4 : Same _ _ := Same.new (o := HO.tup [.str "turns", .int 0]) n4
    have s5 : Same _ _ := Same.new (o := HO.tup [.str "turns", .int 1]) n5
    have s25 := Same.trans s2 (Same.trans s3 (Same.trans s4 s5))
    have s15 : Same H _ := Same.trans (Same.new (o := HO.tup [.str "true"]) n1) s25
    have s6 : Same _ _ := Same.new (o := HO.lst [.ref t1, .ref t2, .ref t3, .ref t4, .ref t5]) n6
    have A5 : HoA _ [V.ref t1, .ref t2, .ref t3, .ref t4, .ref t5] base5 := HoA.cons (g1.up s25) (HoA.cons (g2.up (Same.trans s3 (Same.trans s4 s5))) (HoA.cons (g3.up (Same.trans s4 s5)) (HoA.cons (g4.up s5) (HoA.cons g5 HoA.nil))))
    have LH : Ls _ L base5 := Ls.new n6 A5
    have hb5 := hb.up s15
    have nL : L ≠ b := hb5.fresh n6
    have hb6 := hb5.up s6
    have k6 : Keep b H _ := Keep.of (Same.trans s15 s6)
    generalize hH6 : upd _ L (.lst [V.ref t1, .ref t2, .ref t3, .ref t4, .ref t5]) = H6 at *
    clear s25 s15 s6 A5 g1 g2 g3 g4 g5 s2 s3 s4 s5 hb5
    -- leans, leans
    refine ⟨_, rfl, _, rfl, _, rfl, b, 9, rfl, hb6, by decide, fun r1 H7 a1 b1 k7 hb7 => ?_⟩
    have L7 := LH.keep k7 hb6 nL
    refine ⟨_, _, rfl, rfl, sm 2 (by decide), fun t6 n6' => ?_⟩
    have g6 := Ho.newSrt (s := ⟨"leans", some (1 + r1)⟩) n6'
    have s8 : Same H7 _ := Same.new (o := HO.tup [.str "leans", .int (1 + r1)]) n6'
    have hb8 := hb7.up s8
    refine ⟨1, rfl, _, rfl, _, rfl, b, 9, rfl, hb8, by decide, fun r2 H9 a2 b2 k9 hb9 => ?_⟩
    have L9 := (L7.up s8).keep k9 hb8 nL
    have g9 := g6.keep k9 hb8
    refine ⟨_, _, rfl, rfl, sm 2 (by decide), fun t7 n7' => ?_⟩
    have g10 := Ho.newSrt (s := ⟨"leans", some (-1 - r2)⟩) n7'
    have s10 : Same H9 _ := Same.new (o := HO.tup [.str "leans", .int (-1 - r2)]) n7'
    refine ⟨sm 2 (by decide), fun M nM => ?_⟩
    have s11 : Same _ _ := Same.new (o := HO.lst [.ref t6, .ref t7]) nM
    obtain ⟨us, e11, h11⟩ := (L9.up s10).up s11
    have l11 : us.length = 5 := h11.length
    have A2 : HoA _ [V.ref t6, .ref t7] ([⟨"leans", some (1 + r1)⟩, ⟨"leans", some (-1 - r2)⟩] : List Srt) := HoA.cons ((g9.up s10).up s11) (HoA.cons (g10.up s11) HoA.nil)
    refine ⟨L, M, us, _, rfl, rfl, e11, upd_same, sm _ (by rw [l11]; show 5 + 2 ≤ 100; decide), fun Lb nL2 => ?_⟩
    have L12 : Ls _ Lb (base5 ++ [⟨"leans", some (1 + r1)⟩, ⟨"leans", some (-1 - r2)⟩]) := Ls.new nL2 (h11.append A2)
    have s12 : Same H9 _ := Same.trans (Same.trans s10 s11) (Same.new (o := HO.lst (us ++ [.ref t6, .ref t7])) nL2)
    have hb12 := hb9.up s12
    have k12 : Keep b H _ := (((k6.trans k7).trans (Keep.of s8)).trans k9).trans (Keep.of s12)
    have nL2b : Lb ≠ b := ((hb9.up s10).up s11).fresh nL2
    generalize hH12 : upd _ Lb (.lst (us ++ [V.ref t6, .ref t7])) = H12 at *
    -- sticks
    refine ⟨_, rfl, _, rfl, _, rfl, b, 9, rfl, hb12, by decide, fun r3 H13 a3 b3 k13 hb13 => ?_⟩
    have L13 := L12.keep k13 hb12 nL2b
    refine ⟨_, _, rfl, rfl, sm 2 (by decide), fun t8 n8 => ?_⟩
    have g14 := Ho.newSrt (s := ⟨"sticks", some (1 + r3)⟩) n8
    have s14 : Same H13 _ := Same.new (o := HO.tup [.str "sticks", .int (1 + r3)]) n8
    refine ⟨sm 1 (by decide), fun M2 nM2 => ?_⟩
    have s15 : Same _ _ := Same.new (o := HO.lst [.ref t8]) nM2
    obtain ⟨vs, e15, h15⟩ := (L13.up s14).up s15
    have l15 : vs.length = 7 := h15.length
    have A3 : HoA _ [V.ref t8] ([⟨"sticks", some (1 + r3)⟩] : List Srt) := HoA.cons (g14.up s15) HoA.nil
    refine ⟨Lb, M2, vs, _, rfl, rfl, e15, upd_same, sm _ (by rw [l15]; show 7 + 1 ≤ 100; decide), fun Lc nL3 => ?_⟩
    have L16 : Ls _ Lc (base8 (1 + r1) (-1 - r2) (1 + r3)) := Ls.new nL3 (h15.append A3)
    have s16 : Same H13 _ := Same.trans (Same.trans s14 s15) (Same.new (o := HO.lst (vs ++ [.ref t8])) nL3)
    have hb16 := hb13.up s16
    have k16 : Keep b H _ := (k12.trans k13).trans (Keep.of s16)
    have nL3b : Lc ≠ b := ((hb13.up s14).up s15).fresh nL3
    generalize hH16 : upd _ Lc (.lst (vs ++ [V.ref t8])) = H16 at *
    have ok8 := base8_ok (i := 1 + r1) (j := -1 - r2) (k := 1 + r3) (by omega) (by omega) (by omega)
    generalize hbase : base8 (1 + r1) (-1 - r2) (1 + r3) = B8 at *
    have lB8 : B8.length = 8 := by rw [← hbase]; rfl
    -- found
    intro D nD
    have nDb : D ≠ b := hb16.fresh nD
    have HD0 : H D = none := k16.free nDb nD
    have s17 : Same H16 (upd H16 D (.dT [])) := Same.new nD
    have hb17 := hb16.up s17
    refine ⟨_, rfl, _, rfl, b, 4, rfl, hb17, by decide, fun r4 H18 a4 b4 k18 hb18 => ?_⟩
    have L18 := (L16.up s17).keep k18 hb17 nL3b
    have d18 := k18 D _ nDb upd_same
    have kD : Keep b H H18 := (k16.trans (Keep.of s17)).trans k18
    have nDL : D ≠ Lc := fun z => by
      obtain ⟨_, e, _⟩ := L16
      rw [← z, nD] at e
      cases e
    refine ⟨_, _, rfl, rfl, (1 + r4), rfl, by omega, by omega, for_range (n := (1 + r4).toNat) (fun i σ H' => ∃ y5, σ = [some (.ref b), some (.int 4), some (.int 9), some (.ref Lc), some (.ref D), y5] ∧ Keep b H H' ∧ BagAt H' b ∧ Ls H' Lc B8 ∧ ∃ (kvs : List (List L2.Key × V)) (xs : List Srt), H' D = some (.dT kvs) ∧ kvs.map (·.1) = xs.map Srt.key ∧ xs.Nodup ∧ xs.length ≤ i ∧ (0 < i → 0 < xs.length) ∧ ∀ x ∈ xs, SrtOk x)
      ⟨none, rfl, kD, hb18, L18, [], [], d18, rfl, List.nodup_nil, Nat.le_refl _, fun z => absurd z (by decide), fun _ z => (by cases z)⟩ ?_ ?_⟩
    · rintro i σ H1 hi ⟨y5, rfl, k1, hb1, L1, kvs, xs, e1, hkeys, hnd, hl, hpos, hok⟩
      obtain ⟨ws, ew, hw⟩ := id L1
      have lw : ws.length = 8 := hw.length.trans lB8
      refine ⟨_, rfl, _, rfl, _, rfl, _, rfl, Lc, ws, rfl, .inl (SqL.of ew), b, _, rfl, hb1, by rw [lw]; decide, fun r H2 c1 c2 k2 hb2 => ?_⟩
      rw [lw] at c2
      obtain ⟨j, rfl⟩ := Int.eq_ofNat_of_zero_le c1
      have jl : j < B8.length := by omega
      have Lb' := L1.keep k2 hb1 nL3b
      obtain ⟨ws2, ew2, hw2⟩ := id Lb'
      have ej : B8[j]? = some B8[j] := List.getElem?_eq_getElem jl
      obtain ⟨v, ev, hv⟩ := hw2.at ej
      obtain ⟨av, kv, rfl, hav, rfl⟩ := ho_srt hv
      have e2 := k2 D _ nDb e1
      refine ⟨Lc, ws2, (j : Int), _, rfl, rfl, SqL.of ew2, atI_nat ev, ?_⟩
      have hlk : kvs.length = xs.length := by
        have := congrArg List.length hkeys
        rw [List.length_map, List.length_map] at this
        exact this
      refine ⟨D, _, rfl, DPut.t (k := B8[j].key) e2 hav (small_of (by omega)), ?_⟩
      obtain ⟨ys, y1, y2, y3, y4, y5'⟩ := put_keys (v := V.bl true) (x := B8[j]) srt_key_inj hkeys hnd
      have nl : ∀ xs, H2 D ≠ some (.lst xs) := fun xs z => by
        rw [e2] at z
        cases z
      have nt : ∀ xs, H2 D ≠ some (.tup xs) := fun xs z => by
        rw [e2] at z
        cases z
      refine ⟨_, rfl, Keep.mut (k1.trans k2) HD0, hb2.put nl, ⟨ws2, ?_, hw2.mono (TSame.put nt)⟩, _, ys, upd_same, y1, y2, by omega, fun _ => y4, fun y hy => ?_⟩
      · rw [upd_ne (Ne.symm nDL)]
        exact ew2
      · rcases y5' y hy with z | z
        · rw [z]
          exact ok8 _ (List.getElem_mem jl)
        · exact hok y z
    · rintro σ H1 ⟨y5, rfl, k1, hb1, L1, kvs, xs, e1, hkeys, hnd, hl, hpos, hok⟩
      refine ⟨_, rfl, D, kvs, xs, rfl, .inl e1, hkeys, by omega, fun p H2 s2 n2 Lb' => ?_⟩
      obtain ⟨us', eu, hu⟩ := Lb'
      refine ⟨p, us', rfl, .inl ⟨SqL.of eu, fun l nl => ?_⟩⟩
      have perm := List.mergeSort_perm xs (dataLe false Datum.toD)
      have hlx : (xs.mergeSort (dataLe false Datum.toD)).length = xs.length := perm.length_eq
      refine q _ _ _ ((k1.trans (Keep.of s2)).trans (Keep.of (Same.new nl))) ((hb1.up s2).up (Same.new nl)) (Ho.newTup nl hu) ⟨by rw [hlx]; exact hpos (by omega), by rw [hlx]; omega, sort_strict hnd, fun n hn => hok n (perm.mem_iff.mp hn)⟩
end
end Sly

set_option Elab.async false
set_option linter.all false
set_option maxRecDepth 100000
set_option maxHeartbeats 4000000
/-! Walks: _law_house. -/
namespace Sly
open PySem PySem.Spec PyProof.Rows L2
open PySem.W (Datum DatumOrd Tup T3 dataLe)
def nm4 : List Str := ["ax", "bo", "cy", "di"]
def nm3 : List Str := ["p", "q", "r"]
def WtOk (t : Thing) : Prop := 0 < t.2.items.length ∧ t.2.items.length ≤ 4 ∧ t.2.items.Pairwise (· < ·) ∧ ∀ n ∈ t.2.items, 1 ≤ n ∧ n ≤ 9
/-- what stands while the house is built: the bag, the names, the things, the scales -/
structure Fm (b : Addr) (H : Hp) (l : Addr) (ns : List V) (T S : Addr) (ths : List Thing) (scs : List Scale) (H' : Hp) : Prop where
  k : Keep b H H'
  bag : BagAt H' b
  nm : H' l = some (.lst ns)
  th : Ls H' T ths
  sc : Ls H' S scs
  lb : l ≠ b
  tb : T ≠ b
  sb : S ≠ b
  t0 : H T = none
  s0 : H S = none
  lt : l ≠ T
  ls : l ≠ S
  ts : T ≠ S
section
variable {b l T S : Addr} {H H' H2 : Hp} {ns : List V} {ths : List Thing} {scs : List Scale}
theorem Fm.up (f : Fm b H l ns T S ths scs H') (s : Same H' H2) : Fm b H l ns T S ths scs H2 := { f with k := f.k.trans (Keep.of s), bag := f.bag.up s, nm := s _ _ f.nm, th := f.th.up s, sc := f.sc.up s }
theorem Fm.step (f : Fm b H l ns T S ths scs H') (k : Keep b H' H2) (hb : BagAt H2 b) : Fm b H l ns T S ths scs H2 := { f with k := f.k.trans k, bag := hb, nm := k _ _ f.lb f.nm, th := f.th.keep k f.bag f.tb, sc := f.sc.keep k f.bag f.sb }
theorem Fm.free {p : Addr} (f : Fm b H l ns T S ths scs H') (h : H' p = none) : p ≠ b ∧ H p = none := ⟨f.bag.fresh h, f.k.free (f.bag.fresh h) h⟩
theorem Ls.putN {α : Type} [DecidableEq α] [Datum α] {p : Addr} {o : HO} {xs : List α} {q : Addr} (h : Ls H' q xs) (n : q ≠ p) (nt : ∀ xs, H' p ≠ some (.tup xs)) : Ls (upd H' p o) q xs := by
  obtain ⟨vs, e, g⟩ := h
  refine ⟨vs, ?_, g.mono (TSame.put nt)⟩
  rw [upd_ne n]
  exact e
theorem Ls.ne {α : Type} [DecidableEq α] [Datum α] {p : Addr} {xs : List α} {q : Addr} (h : Ls H' q xs) (hp : ∀ vs, H' p ≠ some (.lst vs)) : q ≠ p := fun z => by
  obtain ⟨vs, e, _⟩ := h
  exact hp vs (z ▸ e)
/-- an object that is no list, no tuple is written -/
theorem Fm.put {p : Addr} {o : HO} (f : Fm b H l ns T S ths scs H') (h0 : H p = none) (nl : ∀ xs, H' p ≠ some (.lst xs)) (nt : ∀ xs, H' p ≠ some (.tup xs)) : Fm b H l ns T S ths scs (upd H' p o) :=
  { f with k := f.k.mut h0, bag := f.bag.put nl, nm := by rw [upd_ne (fun z => nl _ (z ▸ f.nm))]; exact f.nm, th := f.th.putN (f.th.ne nl) nt, sc := f.sc.putN (f.sc.ne nl) nt }
theorem BagAt.putL {p : Addr} {o : HO} {xs : List V} (h : BagAt H' b) (n : p ≠ b) (hp : H' p = Option.some (.lst xs)) (hx : ∀ ds : List Int, 0 < ds.length → xs ≠ ds.map V.int) : BagAt (upd H' p o) b := by
  obtain ⟨d, ds, c, e1, e2, r⟩ := h
  refine ⟨d, ds, c, ?_, ?_, r⟩
  · rw [upd_ne (Ne.symm n)]
    exact e1
  · rw [upd_ne (fun z => ?_)]
    · exact e2
    · rw [z, hp] at e2
      injection e2 with e2
      injection e2 with e2
      exact hx ds r.2.1 e2
theorem hoA_noInt {α β : Type} [DecidableEq α] [Datum α] [DecidableEq β] [Datum β] {vs : List V} {xs : List (α × β)} (h : HoA H vs xs) : ∀ ds : List Int, 0 < ds.length → vs ≠ ds.map V.int := by
  intro ds hd e
  cases xs with
  | nil =>
    rw [hoA_nil h] at e
    cases ds with
    | nil => simp at hd
    | cons x y => cases e
  | cons x r =>
    obtain ⟨v, ws, rfl, h1, _⟩ := hoA_cons h
    obtain ⟨a, _, _, rfl, _⟩ := ho_pair h1
    exact ints_ne ds a _ e.symm
theorem Fm.putT {vs : List V} {v : V} {t : Thing} (f : Fm b H l ns T S ths scs H') (e : H' T = some (.lst vs)) (g : HoA H' vs ths) (h : Ho H' v t) : Fm b H l ns T S (ths ++ [t]) scs (upd H' T (.lst (vs ++ [v]))) :=
  { f with k := f.k.mut f.t0, bag := f.bag.putL f.tb e (hoA_noInt g), nm := by rw [upd_ne f.lt]; exact f.nm, th := ⟨_, upd_same, (g.mono (TSame.putL e)).snoc (h.mono (TSame.putL e))⟩, sc := f.sc.putN (Ne.symm f.ts) (fun xs z => by rw [e] at z; cases z) }
theorem Fm.putS {vs : List V} {v : V} {t : Scale} (f : Fm b H l ns T S ths scs H') (e : H' S = some (.lst vs)) (g : HoA H' vs scs) (h : Ho H' v t) : Fm b H l ns T S ths (scs ++ [t]) (upd H' S (.lst (vs ++ [v]))) :=
  { f with k := f.k.mut f.s0, bag := f.bag.putL f.sb e (hoA_noInt g), nm := by rw [upd_ne f.ls]; exact f.nm, sc := ⟨_, upd_same, (g.mono (TSame.putL e)).snoc (h.mono (TSame.putL e))⟩, th := f.th.putN f.ts (fun xs z => by rw [e] at z; cases z) }
theorem Fm.re {l2 : Addr} {ns2 : List V} (f : Fm b H l ns T S ths scs H') (hn : H' l2 = none) : Fm b H l2 ns2 T S ths scs (upd H' l2 (.lst ns2)) :=
  { f.up (Same.new hn) with nm := upd_same, lb := f.bag.fresh hn, lt := fun z => by (obtain ⟨_, e, _⟩ := f.th; rw [← z, hn] at e; cases e), ls := fun z => by (obtain ⟨_, e, _⟩ := f.sc; rw [← z, hn] at e; cases e) }
end
section
variable {P : Program} {w : PySem.World} {K : PySem.W.Frag} {mg : Str → Option Value} {base : Heap}
def spHouse : Sp := fun vs H Q _ => ∃ (b : Addr), vs = [.ref b, .int 60, .int 9] ∧ BagAt H b ∧ ∀ v H' (h : Hse), Keep b H H' → BagAt H' b → Ho H' v h → HseOk h → Q v H'
theorem ok_house {f fT fS : Addr} {fd fdT fdS : FuncData} (F : Fun K "_law_house" "_law_house" sLawHouse f fd) (B : Blt mg)
    (GT : FnOk P w K mg base CX0 1 fT fdT ["bag", "many"] spTake) (kT : PySem.W.keepIn K (.ref fT) = true) (bT : Binds K fdT ["bag", "many"] []) (gT : mg "_law_take" = some (.ref fT))
    (GS : FnOk P w K mg base CX0 2 fS fdS ["bag", "limit", "far"] spSorts) (kS : PySem.W.keepIn K (.ref fS) = true) (bS : Binds K fdS ["bag", "limit", "far"] []) (gS : mg "_law_sorts" = some (.ref fS)) :
    FnOk P w K mg base CX0 3 f fd ["bag", "bound", "far"] spHouse := by
  refine F.ok scLawHouse (fun vs H Q E h => ?_) (fun cdv A outer s H vs Q E hr h => ?_)
  · obtain ⟨b, rfl, _⟩ := h
    rfl
  · obtain ⟨b, rfl, hb, q⟩ := h
    have nd := scLawHouse.nd
    refine ⟨_, pss_cons (ps_par3 (i := 3) (j := 4) (l := 5) rfl nd rfl rfl rfl (by decide) (by decide) (by decide) rfl rfl rfl (pa_cons (pe_lst pa_nil) (pa_cons (pe_lst pa_nil) (pa_cons pe_int pa_nil))) rfl)
      (pss_cons (ps_for PassesOwn.never rfl (pi_list (pe_slice sl_list (pe_lst (pa_cons pe_str (pa_cons pe_str (pa_cons pe_str (pa_cons pe_str pa_nil))))) po_none (po_some (pe_op op_add pe_int (pe_call GT (hr.mono (by decide)) (by rfl) gT kT bT .nil pass0 (pa_cons (pv 0) (pa_cons pe_int pa_nil))))))) (pg_name (i := 6) nd rfl (.inl rfl))
        (pss_cons (ps_set (i := 7) nd rfl (.inl rfl) (pe_disp (pps_cons (pe_op op_add pe_int (pe_call GT (hr.mono (by decide)) (by rfl) gT kT bT .nil pass0 (pa_cons (pv 0) (pa_cons (pv 2) pa_nil)))) pe_bl pps_nil) rfl rfl (by decide) (by decide)))
        (pss_cons (ps_for PassesOwn.never rfl (pi_range1 (by rfl) B.range (pa_cons (pe_call GT (hr.mono (by decide)) (by rfl) gT kT bT .nil pass0 (pa_cons (pv 0) (pa_cons pe_int pa_nil))) pa_nil)) (pg_name (i := 8) nd rfl (.inl rfl))
          (pss_one (ps_if (pt_cmpR op_le (pe_op op_mul (pv 5) (pe_op op_add (pe_callB call_lenD (by rfl) B.len b_len (pa_cons (pv 7) pa_nil)) pe_int)) (pv 1) (nomark _))
            (pss_one (ps_dput (hu_of hr) (pv 7) (pe_op op_add pe_int (pe_call GT (hr.mono (by decide)) (by rfl) gT kT bT .nil pass0 (pa_cons (pv 0) (pa_cons (pv 2) pa_nil)))) pe_bl rfl)) pss_nil)))
        (pss_cons (ps_set (i := 5) nd rfl (.inl rfl) (pe_op op_mul (pv 5) (pe_callB call_lenD (by rfl) B.len b_len (pa_cons (pv 7) pa_nil))))
        (pss_one (ps_expr (pe_bm PySem.F.plainAttrs_list PySem.F.slot_list_append PySem.F.type_list_append mt_append (pv 3) (pa_cons (pe_tup (pa_cons (pv 6) (pa_cons (pe_callTy call_tuple_of (by rfl) B.tuple b_tuple (pa_cons (pe_callB (call_sortedDI rfl) (by rfl) B.sorted b_sorted (pa_cons (pv 7) pa_nil)) pa_nil)) pa_nil))) pa_nil))))))))
      (pss_cons (ps_for PassesOwn.never rfl (pi_list (pe_slice sl_list (pe_lst (pa_cons pe_str (pa_cons pe_str (pa_cons pe_str pa_nil)))) po_none (po_some (pe_op op_add pe_int (pe_call GT (hr.mono (by decide)) (by rfl) gT kT bT .nil pass0 (pa_cons (pv 0) (pa_cons pe_int pa_nil))))))) (pg_name (i := 6) nd rfl (.inl rfl))
        (pss_cons (ps_set (i := 9) nd rfl (.inl rfl) (pe_call GS hr (by rfl) gS kS bS .nil pass0 (pa_cons (pv 0) (pa_cons pe_int (pa_cons (pv 2) pa_nil)))))
        (pss_cons (ps_while PassesOwn.never (PW.pt (pw_and (pt_cmpR op_gt (pe_callB call_len_seq (by rfl) B.len b_len (pa_cons (pv 9) pa_nil)) pe_int (nomark _)) (pw_and1 (pt_cmpR op_gt (pe_op op_mul (pv 5) (pe_callB call_len_seq (by rfl) B.len b_len (pa_cons (pv 9) pa_nil))) (pv 1) (nomark _)))))
          (pss_one (ps_set (i := 9) nd rfl (.inl rfl) (pe_slice sl_tupA (pv 9) (po_some pe_int) po_none))))
        (pss_cons (ps_set (i := 5) nd rfl (.inl rfl) (pe_op op_mul (pv 5) (pe_callB call_len_seq (by rfl) B.len b_len (pa_cons (pv 9) pa_nil))))
        (pss_one (ps_expr (pe_bm PySem.F.plainAttrs_list PySem.F.slot_list_append PySem.F.type_list_append mt_append (pv 4) (pa_cons (pe_tup (pa_cons (pv 6) (pa_cons (pv 9) pa_nil))) pa_nil))))))))
      (pss_one (ps_ret (pe_tup (pa_cons (pe_callTy call_tuple_of (by rfl) B.tuple b_tuple (pa_cons (pv 3) pa_nil)) (pa_cons (pe_callTy call_tuple_of (by rfl) B.tuple b_tuple (pa_cons (pv 4) pa_nil)) pa_nil))))))), ?_⟩
    have sm : ∀ n : Nat, n ≤ 100 → n ≤ sizeLine := fun n h => small_le (by omega)
    refine ⟨sm 0 (by decide), fun T nT => ⟨sm 0 (by decide), fun S nS => ⟨_, _, _, rfl, ?_⟩⟩⟩
    have sT : Same H (upd H T (.lst [])) := Same.new nT
    have sS : Same (upd H T (.lst [])) (upd (upd H T (.lst [])) S (.lst [])) := Same.new nS
    have nTS : T ≠ S := fun z => by
      rw [← z, upd_same] at nS
      cases nS
    have hb1 := (hb.up sT).up sS
    have eT := sS _ _ (upd_same (H := H) (a := T) (o := .lst []))
    have eS := upd_same (H := upd H T (.lst [])) (a := S) (o := .lst [])
    have k1 : Keep b H _ := Keep.of (Same.trans sT sS)
    have nTb := hb.fresh nT
    have nSb := (hb.up sT).fresh nS
    have HS0 := sT.free nS
    generalize upd (upd H T (.lst [])) S (.lst []) = H1 at hb1 eT eS k1 ⊢
    refine ⟨sm 4 (by decide), fun L0 nL0 => ?_⟩
    have s2 : Same H1 _ := Same.new (o := HO.lst [.str "ax", .str "bo", .str "cy", .str "di"]) nL0
    have f2 : Fm b H L0 (nm4.map V.str) T S [] [] (upd H1 L0 (.lst (nm4.map V.str))) := ⟨k1.trans (Keep.of s2), hb1.up s2, upd_same, ⟨[], s2 _ _ eT, HoA.nil⟩, ⟨[], s2 _ _ eS, HoA.nil⟩, hb1.fresh nL0, nTb, nSb, nT, HS0,
      (fun z => by rw [z, eT] at nL0; cases nL0), (fun z => by rw [z, eS] at nL0; cases nL0), nTS⟩
    refine ⟨_, rfl, b, 4, rfl, f2.bag, by decide, fun r H3 a1 b1 k3 hb3 => ?_⟩
    have f3 := f2.step k3 hb3
    obtain ⟨j, rfl⟩ := Int.eq_ofNat_of_zero_le a1
    refine ⟨_, _, rfl, rfl, _, rfl, L0, _, rfl, SqL.of f3.nm, fun l nl => ?_⟩
    rw [show cutV (nm4.map V.str) none (some (1 + (j : Int))) = (nm4.map V.str).take (1 + j) from by rw [← cut_take (by show 1 + j ≤ 4; omega), Int.natCast_add]; rfl]
    have f4 := f3.re (ns2 := (nm4.map V.str).take (1 + j)) nl
    have jl : ((nm4.map V.str).take (1 + j)).length = 1 + j := by rw [List.length_take]; show min (1 + j) 4 = _; omega
    generalize upd H3 l (.lst ((nm4.map V.str).take (1 + j))) = H4 at f4 ⊢
    refine ⟨l, rfl, ⟨_, SqL.of f4.nm⟩, for_it (walk_list (K := K) (a := l) (xs := (nm4.map V.str).take (1 + j))) (fun n σ H' => ∃ (many : Int) (y6 y7 y8 : Option V) (ths : List Thing), σ = [some (.ref b), some (.int 60), some (.int 9), some (.ref T), some (.ref S), some (.int many), y6, y7, y8, none] ∧ Fm b H l ((nm4.map V.str).take (1 + j)) T S ths [] H' ∧ names ths = nm4.take n ∧ ∀ t ∈ ths, WtOk t)
      ⟨1, none, none, none, [], rfl, f4, rfl, fun _ z => (by cases z)⟩ (fun n σ H' _ ⟨_, _, _, _, _, _, f, _⟩ => SqL.of f.nm) ?_ ?_⟩
    · rintro n x σ H5 H6 hn ⟨many, y6, y7, y8, ths, rfl, f5, hnm, hok⟩ ⟨rfl, hx⟩
      rw [jl] at hn
      have n4 : n < nm4.length := by show n < 4; omega
      have ex : x = .str nm4[n] := by
        have hx' : ((nm4.map V.str).take (1 + j))[n]? = some x := hx
        rw [List.getElem?_take_of_lt (by omega), List.getElem?_map, List.getElem?_eq_getElem n4] at hx'
        exact (Option.some.inj hx').symm
      subst ex
      intro p np
      have f6 := f5.up (Same.new (o := HO.dK []) np)
      obtain ⟨npb, Hp0⟩ := f5.free np
      refine ⟨_, rfl, _, rfl, b, 9, rfl, f6.bag, by decide, fun r1 H7 c1 d1 k7 hb7 => ?_⟩
      have f7 := f6.step k7 hb7
      have e7 := k7 _ _ npb (upd_same (H := H6) (a := p) (o := .dK []))
      refine ⟨_, _, rfl, rfl, e7, [(Sum.inl (1 + r1), .bl true)], rfl, (by show 1 ≤ 15; decide), ?_⟩
      have f8 : Fm b H l _ T S ths [] (upd H7 p (.dK [(Sum.inl (1 + r1), .bl true)])) := f7.put Hp0 (fun xs z => by rw [e7] at z; cases z) (fun xs z => by rw [e7] at z; cases z)
      refine ⟨_, rfl, b, 3, rfl, f8.bag, by decide, fun r2 H9 c2 d2 k9 hb9 => ?_⟩
      have f9 := f8.step k9 hb9
      have e9 := k9 _ _ npb (upd_same (H := H7) (a := p) (o := .dK [(Sum.inl (1 + r1), .bl true)]))
      refine ⟨r2, rfl, by omega, by omega, for_range (n := r2.toNat) (fun i σ H' => ∃ (y8 : Option V) (kvs : List (L2.Key × V)) (xs : List Int), σ = [some (.ref b), some (.int 60), some (.int 9), some (.ref T), some (.ref S), some (.int many), some (.str nm4[n]), some (.ref p), y8, none] ∧ Fm b H l ((nm4.map V.str).take (1 + j)) T S ths [] H' ∧
          H' p = some (.dK kvs) ∧ kvs.map (·.1) = xs.map Sum.inl ∧ xs.Nodup ∧ 0 < xs.length ∧ xs.length ≤ 1 + i ∧ ∀ x ∈ xs, 1 ≤ x ∧ x ≤ 9)
        ⟨y8, _, [1 + r1], rfl, f9, e9, rfl, by simp, (by show 0 < 1; decide), Nat.le_refl _, fun x hx => by (have ex : x = 1 + r1 := by simpa using hx); omega⟩ ?_ ?_⟩
      · rintro i σ HA hi ⟨y8, kvs, xs, rfl, fA, eA, hkeys, hnd, hpos, hl, hxs⟩
        have hlk : kvs.length = xs.length := by
          have := congrArg List.length hkeys
          rw [List.length_map, List.length_map] at this
          exact this
        refine ⟨_, rfl, _, rfl, p, kvs, rfl, eA, _, _, rfl, rfl, _, _, rfl, rfl, .inr ⟨by omega, by omega⟩, _, rfl, _, _, rfl, rfl, _, rfl, ite2 (fun _ => ?_) (fun _ => ?_)⟩
        · refine ⟨_, rfl, _, rfl, _, rfl, b, 9, rfl, fA.bag, by decide, fun r3 HB c3 d3 kB hbB => ?_⟩
          have fB := fA.step kB hbB
          have eB := kB _ _ npb eA
          refine ⟨_, _, rfl, rfl, p, _, rfl, DPut.k (k := Sum.inl (1 + r3)) eB (small_of (by omega)), ?_⟩
          obtain ⟨ys, y1, y2, y3, y4, y5⟩ := put_keys (key := (Sum.inl : Int → L2.Key)) (v := V.bl true) (x := 1 + r3) (fun a b e => Sum.inl.inj e) hkeys hnd
          refine ⟨_, _, ys, rfl, fB.put Hp0 (fun xs z => by rw [eB] at z; cases z) (fun xs z => by rw [eB] at z; cases z), upd_same, y1, y2, y4, by omega, fun y hy => ?_⟩
          rcases y5 y hy with z | z
          · omega
          · exact hxs y z
        · exact ⟨_, kvs, xs, rfl, fA, eA, hkeys, hnd, hpos, by omega, hxs⟩
      · rintro σ HA ⟨y8, kvs, xs, rfl, fA, eA, hkeys, hnd, hpos, hl, hxs⟩
        have hlk : kvs.length = xs.length := by
          have := congrArg List.length hkeys
          rw [List.length_map, List.length_map] at this
          exact this
        refine ⟨_, rfl, _, rfl, p, kvs, rfl, eA, _, _, rfl, rfl, .inr ⟨by omega, by omega⟩, ?_⟩
        obtain ⟨us, eT5, gT5⟩ := fA.th
        refine ⟨_, rfl, .inl ⟨rfl, _, SqL.of eT5⟩, _, rfl, _, rfl, p, kvs, xs, rfl, .inl eA, hkeys, by omega, fun ys q1 perm ord nq1 => ?_⟩
        have fB := fA.up (Same.new (o := HO.lst (ys.map V.int)) nq1)
        refine ⟨q1, _, rfl, .inl ⟨SqL.of upd_same, fun t1 nt1 => ?_⟩⟩
        have fC := fB.up (Same.new (o := HO.tup (ys.map V.int)) nt1)
        refine ⟨sm 2 (by decide), fun t2 nt2 => ?_⟩
        have hyl : ys.length = xs.length := perm.length_eq
        have w0 : Ho _ (.ref t1) (Tup.mk ys) := Ho.newTup nt1 (HoA.ofInts ys)
        have w1 : Ho _ (.ref t2) (nm4[n], Tup.mk ys) := Ho.newPair nt2 (Ho.str nm4[n]) w0
        have sAll := Same.trans (Same.new (o := HO.lst (ys.map V.int)) nq1) (Same.trans (Same.new (o := HO.tup (ys.map V.int)) nt1) (Same.new (o := HO.tup [.str nm4[n], .ref t1]) nt2))
        have fD := fA.up sAll
        have hus : us.length ≤ 4 := by
          rw [gT5.length]
          have := congrArg List.length hnm
          unfold names at this
          rw [List.length_map, List.length_take] at this
          have h4 : nm4.length = 4 := rfl
          omega
        refine ⟨T, us, _, rfl, rfl, sAll _ _ eT5, small_of (by omega), ?_⟩
        refine ⟨_, _, _, _, ths ++ [(nm4[n], Tup.mk ys)], rfl, fD.putT (sAll _ _ eT5) (gT5.up sAll) w1, ?_, fun t ht => ?_⟩
        · unfold names
          rw [List.map_append]
          show names ths ++ [nm4[n]] = _
          rw [hnm, List.take_add_one, List.getElem?_eq_getElem n4]
          rfl
        · rcases List.mem_append.mp ht with z | z
          · exact hok t z
          · have et : t = (nm4[n], Tup.mk ys) := by simpa using z
            subst et
            refine ⟨by show 0 < ys.length; omega, by show ys.length ≤ 4; omega, ?_, fun m hm => hxs m (perm.mem_iff.mp hm)⟩
            have ndy : ys.Nodup := perm.nodup_iff.mpr hnd
            exact (ord.and ndy).imp fun {a b} h => by (obtain ⟨h1, h2⟩ := h; omega)
    · rintro σ H5 ⟨many, y6, y7, y8, ths, rfl, f5, hnm, hok⟩
      rw [jl] at hnm
      refine ⟨sm 3 (by decide), fun L1 nL1 => ?_⟩
      have f6 := f5.re (ns2 := nm3.map V.str) nL1
      refine ⟨_, rfl, b, 3, rfl, f6.bag, by decide, fun r H7 a1 b1 k7 hb7 => ?_⟩
      have f7 := f6.step k7 hb7
      obtain ⟨j2, rfl⟩ := Int.eq_ofNat_of_zero_le a1
      refine ⟨_, _, rfl, rfl, _, rfl, L1, _, rfl, SqL.of f7.nm, fun l2 nl2 => ?_⟩
      rw [show cutV (nm3.map V.str) none (some (1 + (j2 : Int))) = (nm3.map V.str).take (1 + j2) from by rw [← cut_take (by show 1 + j2 ≤ 3; omega), Int.natCast_add]; rfl]
      have f8 := f7.re (ns2 := (nm3.map V.str).take (1 + j2)) nl2
      have jl2 : ((nm3.map V.str).take (1 + j2)).length = 1 + j2 := by rw [List.length_take]; show min (1 + j2) 3 = _; omega
      generalize upd H7 l2 (.lst ((nm3.map V.str).take (1 + j2))) = H8 at f8 ⊢
      refine ⟨l2, rfl, ⟨_, SqL.of f8.nm⟩, for_it (walk_list (K := K) (a := l2) (xs := (nm3.map V.str).take (1 + j2))) (fun n σ H' => ∃ (many : Int) (y6 y7 y8 y9 : Option V) (scs : List Scale), σ = [some (.ref b), some (.int 60), some (.int 9), some (.ref T), some (.ref S), some (.int many), y6, y7, y8, y9] ∧ Fm b H l2 ((nm3.map V.str).take (1 + j2)) T S ths scs H' ∧ names scs = nm3.take n ∧ ∀ t ∈ scs, SrtsOk t.2.items)
        ⟨many, _, _, _, none, [], rfl, f8, rfl, fun _ z => (by cases z)⟩ (fun n σ H' _ ⟨_, _, _, _, _, _, _, f, _⟩ => SqL.of f.nm) ?_ ?_⟩
      · rintro n x σ H9 HA hn ⟨many, y6, y7, y8, y9, scs, rfl, f9, hnm2, hok2⟩ ⟨rfl, hx⟩
        rw [jl2] at hn
        have n3 : n < nm3.length := by show n < 3; omega
        have ex : x = .str nm3[n] := by
          have hx' : ((nm3.map V.str).take (1 + j2))[n]? = some x := hx
          rw [List.getElem?_take_of_lt (by omega), List.getElem?_map, List.getElem?_eq_getElem n3] at hx'
          exact (Option.some.inj hx').symm
        subst ex
        refine ⟨_, rfl, _, rfl, b, rfl, f9.bag, fun v HB ss kB hbB hv hss => ?_⟩
        have fB := f9.step kB hbB
        -- while
        refine ⟨fun m σ H' => ∃ (v : V) (ss : List Srt), m = ss.length ∧ σ = [some (.ref b), some (.int 60), some (.int 9), some (.ref T), some (.ref S), some (.int many), some (.str nm3[n]), y7, y8, some v] ∧ Fm b H l2 ((nm3.map V.str).take (1 + j2)) T S ths scs H' ∧ Ho H' v (Tup.mk ss) ∧ SrtsOk ss,
          ⟨_, v, ss, rfl, rfl, fB, hv, hss⟩, ?_⟩
        rintro m σ HC ⟨v, ss, rfl, rfl, fC, hvC, hssC⟩
        obtain ⟨a, us, rfl, ha, hus⟩ := ho_tup hvC
        have hul : us.length = ss.length := hus.length
        refine ⟨_, rfl, a, us, rfl, .inr (SqT.of ha), _, _, rfl, rfl, _, rfl, ite2 (fun e => ?_) (fun e => ?_)⟩
        · refine ⟨_, rfl, _, rfl, a, us, rfl, .inr (SqT.of ha), _, _, rfl, rfl, .inr ⟨by have := hssC.2.1; omega, by have := hssC.2.1; omega⟩, _, rfl, _, _, rfl, rfl, _, rfl, ite2 (fun e2 => ?_) (fun e2 => ?_)⟩
          · have h1 : 1 < ss.length := by
              have := of_decide_eq_true e
              omega
            refine ⟨fun σ' H' => ∃ (v : V), σ' = [some (.ref b), some (.int 60), some (.int 9), some (.ref T), some (.ref S), some (.int many), some (.str nm3[n]), y7, y8, some v] ∧ Fm b H l2 ((nm3.map V.str).take (1 + j2)) T S ths scs H' ∧ Ho H' v (Tup.mk (ss.drop 1)), fun σ' H' q' => ?_, ?_⟩
            · obtain ⟨v', e1, e2, e3⟩ := q'
              exact ⟨(ss.drop 1).length, by rw [List.length_drop]; omega, v', ss.drop 1, rfl, e1, e2, e3, by rw [List.length_drop]; omega, by rw [List.length_drop]; have := hssC.2.1; omega, hssC.2.2.1.sublist (List.drop_sublist _ _), fun n hn => hssC.2.2.2 n (List.mem_of_mem_drop hn)⟩
            · refine ⟨_, rfl, 1, rfl, ?_⟩
              refine noPart ?_
              refine sl_tail ha fun p H1 s1 hp => ?_
              exact ⟨_, rfl, fC.up s1, Ho.tup hp ((hus.drop 1).up s1)⟩
          · refine ⟨_, rfl, _, rfl, a, us, rfl, .inr (SqT.of ha), _, _, rfl, rfl, .inr ⟨by have := hssC.2.1; omega, by have := hssC.2.1; omega⟩, ?_⟩
            obtain ⟨qs, eS5, gS5⟩ := fC.sc
            refine ⟨_, rfl, .inl ⟨rfl, _, SqL.of eS5⟩, _, rfl, _, rfl, sm 2 (by decide), fun t2 nt2 => ?_⟩
            have w1 : Ho _ (.ref t2) (nm3[n], Tup.mk ss) := Ho.newPair nt2 (Ho.str nm3[n]) hvC
            have sN := Same.new (o := HO.tup [.str nm3[n], .ref a]) nt2
            have fD := fC.up sN
            have hqs : qs.length ≤ 4 := by
              rw [gS5.length]
              have := congrArg List.length hnm2
              unfold names at this
              rw [List.length_map, List.length_take] at this
              have h4 : nm3.length = 3 := rfl
              omega
            refine ⟨S, qs, _, rfl, rfl, sN _ _ eS5, small_of (by omega), ?_⟩
            refine ⟨_, _, _, _, _, scs ++ [(nm3[n], Tup.mk ss)], rfl, fD.putS (sN _ _ eS5) (gS5.up sN) w1, ?_, fun t ht => ?_⟩
            · unfold names
              rw [List.map_append]
              show names scs ++ [nm3[n]] = _
              rw [hnm2, List.take_add_one, List.getElem?_eq_getElem n3]
              rfl
            · rcases List.mem_append.mp ht with z | z
              · exact hok2 t z
              · have et : t = (nm3[n], Tup.mk ss) := by simpa using z
                subst et
                exact hssC
        · refine ⟨_, rfl, _, rfl, a, us, rfl, .inr (SqT.of ha), _, _, rfl, rfl, .inr ⟨by have := hssC.2.1; omega, by have := hssC.2.1; omega⟩, ?_⟩
          obtain ⟨qs, eS5, gS5⟩ := fC.sc
          refine ⟨_, rfl, .inl ⟨rfl, _, SqL.of eS5⟩, _, rfl, _, rfl, sm 2 (by decide), fun t2 nt2 => ?_⟩
          have w1 : Ho _ (.ref t2) (nm3[n], Tup.mk ss) := Ho.newPair nt2 (Ho.str nm3[n]) hvC
          have sN := Same.new (o := HO.tup [.str nm3[n], .ref a]) nt2
          have fD := fC.up sN
          have hqs : qs.length ≤ 4 := by
            rw [gS5.length]
            have := congrArg List.length hnm2
            unfold names at this
            rw [List.length_map, List.length_take] at this
            have h4 : nm3.length = 3 := rfl
            omega
          refine ⟨S, qs, _, rfl, rfl, sN _ _ eS5, small_of (by omega), ?_⟩
          refine ⟨_, _, _, _, _, scs ++ [(nm3[n], Tup.mk ss)], rfl, fD.putS (sN _ _ eS5) (gS5.up sN) w1, ?_, fun t ht => ?_⟩
          · unfold names
            rw [List.map_append]
            show names scs ++ [nm3[n]] = _
            rw [hnm2, List.take_add_one, List.getElem?_eq_getElem n3]
            rfl
          · rcases List.mem_append.mp ht with z | z
            · exact hok2 t z
            · have et : t = (nm3[n], Tup.mk ss) := by simpa using z
              subst et
              exact hssC
      · rintro σ H9 ⟨many, y6, y7, y8, y9, scs, rfl, f9, hnm2, hok2⟩
        rw [jl2] at hnm2
        obtain ⟨us, eT5, gT5⟩ := f9.th
        obtain ⟨qs, eS5, gS5⟩ := f9.sc
        refine ⟨_, rfl, T, us, rfl, .inl ⟨SqL.of eT5, fun t1 n1 => ?_⟩⟩
        have sa : Same H9 _ := Same.new (o := HO.tup us) n1
        refine ⟨_, rfl, S, qs, rfl, .inl ⟨SqL.of (sa _ _ eS5), fun t2 n2 => ?_⟩⟩
        have sb : Same _ _ := Same.new (o := HO.tup qs) n2
        refine ⟨sm 2 (by decide), fun t3 n3 => ?_⟩
        have sc : Same _ _ := Same.new (o := HO.tup [.ref t1, .ref t2]) n3
        have fE := f9.up (Same.trans sa (Same.trans sb sc))
        have lnm : (names ths).length = 1 + j := by rw [hnm, List.length_take]; show min (1 + j) 4 = _; omega
        have lnm2 : (names scs).length = 1 + j2 := by rw [hnm2, List.length_take]; show min (1 + j2) 3 = _; omega
        unfold names at lnm lnm2
        rw [List.length_map] at lnm lnm2
        refine q (.ref t3) _ (Tup.mk ths, Tup.mk scs) fE.k fE.bag (Ho.newPair n3 (((Ho.newTup n1 gT5).up sb)) (Ho.newTup n2 (gS5.up sa))) ⟨by show ths.length ≤ 4; omega, by show scs.length ≤ 3; omega, by show 0 < scs.length; omega, ?_, ?_, hok, hok2⟩
        · show (names ths).Pairwise _
          rw [hnm]
          exact (show nm4.Pairwise fun a b => a.cps.toList < b.cps.toList by decide +kernel).sublist (List.take_sublist _ _)
        · show (names scs).Pairwise _
          rw [hnm2]
          exact (show nm3.Pairwise fun a b => a.cps.toList < b.cps.toList by decide +kernel).sublist (List.take_sublist _ _)
end
end Sly

set_option Elab.async false
set_option linter.all false
set_option maxRecDepth 100000
set_option maxHeartbeats 4000000
/-! Walks: _law_weighing, _law_row. -/
namespace Sly
open PySem PySem.Spec PyProof.Rows L2
open PySem.W (Datum DatumOrd Tup T3 dataLe)
theorem hoS_noInt {H : Hp} {vs : List V} {xs : List Str} (h : HoA H vs xs) : ∀ ds : List Int, 0 < ds.length → vs ≠ ds.map V.int := by
  intro ds hd e
  rw [h.strs] at e
  cases xs with
  | nil =>
    cases ds with
    | nil => simp at hd
    | cons x y => cases e
  | cons x r =>
    cases ds with
    | nil => cases e
    | cons y z => cases e
section
variable {P : Program} {w : PySem.World} {K : PySem.W.Frag} {mg : Str → Option Value} {base : Heap}
def spWgh : Sp := fun vs H Q _ => ∃ (b : Addr) (u : V) (h : Hse), vs = [.ref b, u] ∧ BagAt H b ∧ Ho H u h ∧ HseOk h ∧ ∀ v H' (g : Weigh), Keep b H H' → BagAt H' b → Ho H' v g → WeighOk h g → Q v H'
theorem ok_wgh {f fT : Addr} {fd fdT : FuncData} (F : Fun K "_law_weighing" "_law_weighing" sLawWeighing f fd) (B : Blt mg)
    (GT : FnOk P w K mg base CX0 1 fT fdT ["bag", "many"] spTake) (kT : PySem.W.keepIn K (.ref fT) = true) (bT : Binds K fdT ["bag", "many"] []) (gT : mg "_law_take" = some (.ref fT)) :
    FnOk P w K mg base CX0 2 f fd ["bag", "house"] spWgh := by
  refine F.ok scLawWeighing (fun vs H Q E h => ?_) (fun cdv A outer s H vs Q E hr h => ?_)
  · obtain ⟨b, u, h, rfl, _⟩ := h
    rfl
  · obtain ⟨b, u, h, rfl, hb, hu, hk, q⟩ := h
    have nd := scLawWeighing.nd
    refine ⟨_, pss_cons (ps_par (i := 2) (j := 3) rfl nd rfl rfl (by decide) rfl rfl (pa_cons (pe_lst pa_nil) (pa_cons (pe_lst pa_nil) pa_nil)) rfl)
      (pss_cons (ps_for PassesOwn.never rfl (pi_tup (pe_ix ix_tup (pv 1) pe_int (fun _ _ => rfl))) (pg_tup rfl (pgs_cons (pg_name (i := 4) nd rfl (.inl rfl)) (pgs_cons (pg_name (i := 5) nd rfl (.inl rfl)) pgs_nil)))
        (pss_cons (ps_set (i := 6) nd rfl (.inl rfl) (pe_call GT hr (by rfl) gT kT bT .nil pass0 (pa_cons (pv 0) (pa_cons pe_int pa_nil))))
        (pss_one (ps_if (pt_cmpR op_lt (pv 6) pe_int (nomark _))
          (pss_one (ps_expr (pe_bm PySem.F.plainAttrs_list PySem.F.slot_list_append PySem.F.type_list_append mt_append (pv 2) (pa_cons (pv 4) pa_nil))))
          (pss_one (ps_if (pt_cmpR op_lt (pv 6) pe_int (nomark _))
            (pss_one (ps_expr (pe_bm PySem.F.plainAttrs_list PySem.F.slot_list_append PySem.F.type_list_append mt_append (pv 3) (pa_cons (pv 4) pa_nil)))) pss_nil))))))
      (pss_one (ps_ret (pe_tup (pa_cons (pe_ix ix_tup (pe_ix ix_tup (pe_ix ix_tup (pv 1) pe_int (fun _ _ => rfl)) (pe_call GT hr (by rfl) gT kT bT .nil pass0 (pa_cons (pv 0) (pa_cons (pe_callB call_len_seq (by rfl) B.len b_len (pa_cons (pe_ix ix_tup (pv 1) pe_int (fun _ _ => rfl)) pa_nil)) pa_nil))) (fun _ _ => rfl)) pe_int (fun _ _ => rfl))
        (pa_cons (pe_callTy call_tuple_of (by rfl) B.tuple b_tuple (pa_cons (pv 2) pa_nil)) (pa_cons (pe_callTy call_tuple_of (by rfl) B.tuple b_tuple (pa_cons (pv 3) pa_nil)) pa_nil))))))), ?_⟩
    have sm : ∀ n : Nat, n ≤ 100 → n ≤ sizeLine := fun n h => small_le (by omega)
    obtain ⟨a, x, y, rfl, ha, hx, hy⟩ := ho_pair hu
    obtain ⟨ax, xs, rfl, hax, hxs⟩ := ho_tup hx
    obtain ⟨ay, ys, rfl, hay, hys⟩ := ho_tup hy
    have hxl : xs.length = h.1.items.length := hxs.length
    have hyl : ys.length = h.2.items.length := hys.length
    have hk4 := hk.things
    have hks := hk.scales
    have hks0 := hk.scale0
    refine ⟨sm 0 (by decide), fun L nL => ⟨sm 0 (by decide), fun R nR => ⟨_, _, rfl, ?_⟩⟩⟩
    have sL : Same H (upd H L (.lst [])) := Same.new nL
    have sR : Same (upd H L (.lst [])) (upd (upd H L (.lst [])) R (.lst [])) := Same.new nR
    have nLR : L ≠ R := fun z => by
      rw [← z, upd_same] at nR
      cases nR
    have hb1 := (hb.up sL).up sR
    have eL := sR _ _ (upd_same (H := H) (a := L) (o := .lst []))
    have eR := upd_same (H := upd H L (.lst [])) (a := R) (o := .lst [])
    have k1 : Keep b H _ := Keep.of (Same.trans sL sR)
    have nLb := hb.fresh nL
    have nRb := (hb.up sL).fresh nR
    have HR0 := sL.free nR
    generalize upd (upd H L (.lst [])) R (.lst []) = H1 at hb1 eL eR k1 ⊢
    have tupK : ∀ {p : Addr} {vs : List V} {H' : Hp}, H p = some (.tup vs) → Keep b H H' → H' p = some (.tup vs) := fun e k => k.t hb _ _ e
    have hnd := names_nodup hk.nt
    refine ⟨_, rfl, a, _, 0, _, rfl, rfl, SqT.of (tupK ha k1), atI_nat (j := 0) rfl, ax, rfl, ⟨xs, SqT.of (tupK hax k1)⟩, for_it (walk_tup (K := K) (a := ax) (xs := xs)) (fun n σ H' => ∃ (y4 y5 y6 : Option V) (ls rs : List Str), σ = [some (.ref b), some (.ref a), some (.ref L), some (.ref R), y4, y5, y6] ∧ Keep b H H' ∧ BagAt H' b ∧ Ls H' L ls ∧ Ls H' R rs ∧ ls.Sublist ((names h.1.items).take n) ∧ rs.Sublist ((names h.1.items).take n) ∧ ∀ x ∈ ls, x ∉ rs)
      ⟨none, none, none, [], [], rfl, k1, hb1, ⟨[], eL, HoA.nil⟩, ⟨[], eR, HoA.nil⟩, List.nil_sublist _, List.nil_sublist _, fun _ z => (by cases z)⟩ (fun n σ H' _ ⟨_, _, _, _, _, _, k, _⟩ => SqT.of (tupK hax k)) ?_ ?_⟩
    · rintro n v σ H2 H3 hn ⟨y4, y5, y6, ls, rs, rfl, k2, hb2, hL, hR, sl, sr, hap⟩ ⟨rfl, hv⟩
      have hv' : xs[n]? = some v := hv
      obtain ⟨t, et, ht⟩ := (hxs.mono (k2.t hb)).back hv'
      obtain ⟨at_, z1, z2, rfl, hat, hz1, hz2⟩ := ho_pair ht
      have ez := ho_str hz1
      subst ez
      have en : (names h.1.items)[n]? = some t.1 := by
        unfold names
        rw [List.getElem?_map, et]
        rfl
      have nin : t.1 ∉ (names h.1.items).take n := fun hm => by
        obtain ⟨i, hi, ei⟩ := List.mem_take_iff_getElem.mp hm
        have e1 : (names h.1.items)[i]? = some t.1 := by
          rw [List.getElem?_eq_getElem (by omega)]
          exact congrArg some ei
        have := nd_ix hnd e1 en
        omega
      have tk : (names h.1.items).take (n + 1) = (names h.1.items).take n ++ [t.1] := by rw [List.take_add_one, en]; rfl
      refine ⟨at_, _, rfl, SqT.of hat, rfl, _, _, rfl, _, _, rfl, rfl, ?_⟩
      refine ⟨_, rfl, b, 5, rfl, hb2, by decide, fun r H4 a1 b1 k4 hb4 => ?_⟩
      have hL4 := hL.keep k4 hb2 nLb
      have hR4 := hR.keep k4 hb2 nRb
      have k24 := k2.trans k4
      have mono : ∀ {l : List Str}, l.Sublist ((names h.1.items).take n) → l.Sublist ((names h.1.items).take (n + 1)) := fun s => by rw [tk]; exact s.trans (List.sublist_append_left _ _)
      refine ⟨_, rfl, _, _, rfl, rfl, _, rfl, ite2 (fun _ => ?_) (fun _ => ?_)⟩
      · obtain ⟨us, eu, hus⟩ := hL4
        have hul : us.length ≤ 4 := by
          have := sl.length_le
          rw [hus.length]
          unfold names at this
          rw [List.length_take, List.length_map] at this
          omega
        refine ⟨_, rfl, .inl ⟨rfl, _, SqL.of eu⟩, _, rfl, L, us, _, rfl, rfl, eu, small_of (by omega), ?_⟩
        refine ⟨_, _, _, ls ++ [t.1], rs, rfl, k24.mut nL, hb4.putL nLb eu (hoS_noInt hus), ⟨_, upd_same, (hus.mono (TSame.putL eu)).snoc (Ho.str t.1)⟩, hR4.putN (Ne.symm nLR) (fun xs z => by rw [eu] at z; cases z), ?_, mono sr, fun x hx => ?_⟩
        · rw [tk]
          exact sl.append (List.Sublist.refl _)
        · rcases List.mem_append.mp hx with z | z
          · exact hap x z
          · have ez : x = t.1 := by simpa using z
            subst ez
            exact fun z => nin (sr.subset z)
      · refine ⟨_, rfl, _, _, rfl, rfl, _, rfl, ite2 (fun _ => ?_) (fun _ => ?_)⟩
        · obtain ⟨us, eu, hus⟩ := hR4
          have hul : us.length ≤ 4 := by
            have := sr.length_le
            rw [hus.length]
            unfold names at this
            rw [List.length_take, List.length_map] at this
            omega
          refine ⟨_, rfl, .inl ⟨rfl, _, SqL.of eu⟩, _, rfl, R, us, _, rfl, rfl, eu, small_of (by omega), ?_⟩
          refine ⟨_, _, _, ls, rs ++ [t.1], rfl, k24.mut HR0, hb4.putL nRb eu (hoS_noInt hus), hL4.putN nLR (fun xs z => by rw [eu] at z; cases z), ⟨_, upd_same, (hus.mono (TSame.putL eu)).snoc (Ho.str t.1)⟩, mono sl, ?_, fun x hx z => ?_⟩
          · rw [tk]
            exact sr.append (List.Sublist.refl _)
          · rcases List.mem_append.mp z with z | z
            · exact hap x hx z
            · have ez : x = t.1 := by simpa using z
              subst ez
              exact nin (sl.subset hx)
        · exact ⟨_, _, _, ls, rs, rfl, k24, hb4, hL4, hR4, mono sl, mono sr, hap⟩
    · rintro σ H2 ⟨y4, y5, y6, ls, rs, rfl, k2, hb2, hL, hR, sl, sr, hap⟩
      rw [hxl, List.take_of_length_le (by unfold names; rw [List.length_map]; exact Nat.le_refl _)] at sl sr
      refine ⟨_, rfl, a, _, 1, _, rfl, rfl, SqT.of (tupK ha k2), atI_nat (j := 1) rfl, _, rfl, _, rfl, a, _, 1, _, rfl, rfl, SqT.of (tupK ha k2), atI_nat (j := 1) rfl, ay, ys, rfl, .inr (SqT.of (tupK hay k2)), b, _, rfl, hb2, by omega, fun r H4 a1 b1 k4 hb4 => ?_⟩
      obtain ⟨j, rfl⟩ := Int.eq_ofNat_of_zero_le a1
      have k24 := k2.trans k4
      have jl : j < h.2.items.length := by omega
      have ej : h.2.items[j]? = some h.2.items[j] := List.getElem?_eq_getElem jl
      obtain ⟨v, ev, hv⟩ := (hys.mono (k24.t hb)).at ej
      obtain ⟨at_, z1, z2, rfl, hat, hz1, hz2⟩ := ho_pair hv
      refine ⟨ay, ys, (j : Int), _, rfl, rfl, SqT.of (tupK hay k24), atI_nat ev, at_, _, 0, _, rfl, rfl, SqT.of hat, atI_nat (j := 0) rfl, ?_⟩
      obtain ⟨us, eu, hus⟩ := hL.keep k4 hb2 nLb
      obtain ⟨ws, ew, hws⟩ := hR.keep k4 hb2 nRb
      refine ⟨_, rfl, L, us, rfl, .inl ⟨SqL.of eu, fun t1 n1 => ?_⟩⟩
      have sa : Same H4 _ := Same.new (o := HO.tup us) n1
      refine ⟨_, rfl, R, ws, rfl, .inl ⟨SqL.of (sa _ _ ew), fun t2 n2 => ?_⟩⟩
      have sb : Same _ _ := Same.new (o := HO.tup ws) n2
      refine ⟨sm 3 (by decide), fun t3 n3 => ?_⟩
      have sc : Same _ _ := Same.new (o := HO.tup [z1, .ref t1, .ref t2]) n3
      have sAll := Same.trans sa (Same.trans sb sc)
      refine q (.ref t3) _ ⟨h.2.items[j].1, Tup.mk ls, Tup.mk rs⟩ (k24.trans (Keep.of sAll)) (hb4.up sAll) (Ho.t3 upd_same (hz1.up sAll) ((Ho.newTup n1 hus).up (Same.trans sb sc)) ((Ho.newTup n2 (hws.up sa)).up sc)) ⟨?_, sl, sr, hap⟩
      unfold names
      exact List.mem_map_of_mem (List.getElem_mem jl)
/-! ### _law_row -/
theorem hoW_noInt {H : Hp} {vs : List V} {xs : List Weigh} (h : HoA H vs xs) : ∀ ds : List Int, 0 < ds.length → vs ≠ ds.map V.int := by
  intro ds hd e
  cases xs with
  | nil =>
    rw [hoA_nil h] at e
    cases ds with
    | nil => simp at hd
    | cons x y => cases e
  | cons x r =>
    obtain ⟨v, ws, rfl, h1, _⟩ := hoA_cons h
    obtain ⟨a, _, _, _, rfl, _⟩ := ho_t3 h1
    exact ints_ne ds a _ e.symm
def spRow : Sp := fun vs H Q _ => ∃ (b : Addr) (u : V) (h : Hse) (lim : Int), vs = [.ref b, u, .int lim] ∧ BagAt H b ∧ Ho H u h ∧ HseOk h ∧ 0 ≤ lim ∧ lim ≤ 10 ∧ ∀ q H' (row : List Weigh), Keep b H H' → BagAt H' b → H q = none → Ls H' q row → row.length ≤ lim.toNat → (∀ g ∈ row, WeighOk h g) → Q (.ref q) H'
theorem ok_row {f fT fW : Addr} {fd fdT fdW : FuncData} (F : Fun K "_law_row" "_law_row" sLawRow f fd) (B : Blt mg)
    (GT : FnOk P w K mg base CX0 1 fT fdT ["bag", "many"] spTake) (kT : PySem.W.keepIn K (.ref fT) = true) (bT : Binds K fdT ["bag", "many"] []) (gT : mg "_law_take" = some (.ref fT))
    (GW : FnOk P w K mg base CX0 2 fW fdW ["bag", "house"] spWgh) (kW : PySem.W.keepIn K (.ref fW) = true) (bW : Binds K fdW ["bag", "house"] []) (gW : mg "_law_weighing" = some (.ref fW)) :
    FnOk P w K mg base CX0 3 f fd ["bag", "house", "limit"] spRow := by
  refine F.ok scLawRow (fun vs H Q E h => ?_) (fun cdv A outer s H vs Q E hr h => ?_)
  · obtain ⟨b, u, h, lim, rfl, _⟩ := h
    rfl
  · obtain ⟨b, u, h, lim, rfl, hb, hu, hk, l0, l1, q⟩ := h
    have nd := scLawRow.nd
    refine ⟨_, pss_one (ps_ret (pe_lc (own := [("k", 3)]) (g := gName 3) (tt := tYes) (te := tCall spWgh [] E0 (tCons (tVar 0) (tCons (tVar 1) tNil))) rfl nd (pi_range1 (by rfl) B.range (pa_cons (pe_call GT (hr.mono (by decide)) (by rfl) gT kT bT .nil pass0 (pa_cons (pv 0) (pa_cons (pe_op op_add (pv 2) pe_int) pa_nil))) pa_nil))
      (blkOk_by (N := nLawRow) (sc := defScope sLawRow) (by decide +kernel)) (fun _ _ _ _ _ => pg_name (i := 3) nd rfl (.inl rfl)) (fun _ _ _ _ _ => pts_nil) (fun _ _ _ _ _ => pe_call GW hr (by rfl) gW kW bW .nil pass0 (pa_cons (pv 0) (pa_cons (pv 1) pa_nil))))), ?_⟩
    refine ⟨_, rfl, _, rfl, _, _, rfl, rfl, b, lim + 1, rfl, hb, by omega, fun r H1 a1 b1 k1 hb1 => ?_⟩
    refine ⟨r, rfl, by omega, by omega, fun D hD => ?_⟩
    have nDb := hb1.fresh hD
    have HD0 := k1.free nDb hD
    refine lc_it (walk_range (lo := 0) (n := r.toNat)) (fun i H' => Keep b H H' ∧ BagAt H' b ∧ ∃ (acc : List V) (row : List Weigh), H' D = some (.lst acc) ∧ HoA H' acc row ∧ row.length = i ∧ ∀ g ∈ row, WeighOk h g) ⟨k1.mut HD0, hb1.up (Same.new hD), [], [], upd_same, HoA.nil, rfl, fun _ z => (by cases z)⟩ (fun _ _ _ _ => trivial) ?_ ?_
    · rintro i x H2 H3 hi ⟨k2, hb2, acc, row, e2, hacc, hl, hok⟩ ⟨rfl, rfl⟩
      refine ⟨rfl, yes ?_⟩
      refine ⟨_, rfl, _, rfl, b, u, h, rfl, hb2, hu.mono (k2.t hb), hk, fun v H4 g k4 hb4 hv hg => ?_⟩
      have e4 := k4 _ _ nDb e2
      have hacc4 := hacc.keep k4 hb2
      have hal : acc.length = row.length := hacc.length
      refine ⟨acc, e4, small_of (by omega), (k2.trans k4).mut HD0, hb4.putL nDb e4 (hoW_noInt hacc4), _, row ++ [g], upd_same, (hacc4.mono (TSame.putL e4)).snoc (hv.mono (TSame.putL e4)), by rw [List.length_append, List.length_singleton, hl], fun g' hg' => ?_⟩
      rcases List.mem_append.mp hg' with z | z
      · exact hok g' z
      · have ez : g' = g := by simpa using z
        rw [ez]
        exact hg
    · rintro H2 ⟨k2, hb2, acc, row, e2, hacc, hl, hok⟩
      exact q D H2 row k2 hb2 HD0 ⟨acc, e2, hacc⟩ (by omega) hok
end
end Sly

set_option Elab.async false
set_option linter.all false
set_option maxRecDepth 100000
set_option maxHeartbeats 4000000
/-! sum(lists, list). -/
namespace Sly
open PySem PySem.Spec PyProof.Rows L2
open Sem (wp)
theorem args_sum2 (a b : Value) : argsOk "sum" ⟨[a, b], []⟩ := by unfold argsOk; kernel_rfl
theorem lstSub_str : isSubtype (.type "list") (.type "str") = pure false := by rw [isSubtype_type]; kernel_rfl
theorem lstSub_bytes : isSubtype (.type "list") (.type "bytes") = pure false := by rw [isSubtype_type]; kernel_rfl
theorem lstSub_bytearray : isSubtype (.type "list") (.type "bytearray") = pure false := by rw [isSubtype_type]; kernel_rfl
/-- the list object at a -/
def LO (h : Heap) (a : Addr) (us : List Value) : Prop := ∃ n, h.get? a = some { cls := .type "list", data := .seq us.toArray n }
section
variable {prog : Program} {w : PySem.World} {A : Around} {R : Result → Shared → Prop} {I ax : Addr} {items : Array Value}
theorem code_sumL_loop (hh : A.handled = none) (S : Addr) (hSI : S ≠ I) (hSa : S ≠ ax) (has : ax ≠ I) (as : Nat → Addr) (its : Nat → List Value) (hP : ∀ (i : Nat) (v : Value), items[i]? = some v → v = Value.ref (as i)) (hS : ∀ i, i < items.size → as i ≠ S ∧ as i ≠ I) :
    ∀ (k i : Nat) (s : Shared) (t : Addr) (acc : List Value) (c : Nat), items.size - i = k → i ≤ items.size → s.heap.IsListIter I ax i → s.heap.IsList ax items → s.heap.get? S = some { cls := .type "list", dict := none, data := .seq #[.ref t] c, slots := #[] } → t ≠ S → t ≠ I → LO s.heap t acc →
    (∀ j, i ≤ j → j < items.size → LO s.heap (as j) (its j)) → (acc.length + ((List.range' i (items.size - i)).flatMap its).length ≤ sizeLine) →
    (∀ h' tk t', (∀ b o, b ≠ I → b ≠ S → s.heap.get? b = some o → h'.get? b = some o) → LO h' t' (acc ++ (List.range' i (items.size - i)).flatMap its) → (s.heap.objs.size ≤ t' ∨ (t' = t ∧ i = items.size)) → R (.ok (.ret (.ref t'))) { s with heap := h', toks := tk }) →
    codeAny (model prog w) A (.builtin "sum.loop" ⟨[.ref I, .ref S, rawInt 2, rawInt 0], []⟩) R s := by
  intro k
  induction k with
  | zero =>
    intro i s t acc c hk hi hst hsl hS0 htS htw hacc hits hlen hR
    have hin : i = items.size := by omega
    subst hin
    refine codeAny_builtin F.entry_sum_loop ?_
    rw [Around.under_plainId F.plain_sum_loop _]
    show wpAny _ A.in1 (seqItems? (.ref S) >>= _) _ _ s
    refine wpAny_bind (wpAny_seqItems hS0 rfl ?_)
    show wpAny _ A.in1 (tryCatch (pyNext (.ref I)) _ >>= _) _ _ s
    refine wpAny_bind (wpAny_tryCatch (wpAny_pyNext_list_end (A := A.in1) hh hst hsl (by simp) fun h' hk' => ?_))
    refine wpAny_pure (hR h' _ t (fun b o hbw _ e => hk' b o hbw e) ?_ (.inr ⟨rfl, rfl⟩))
    obtain ⟨m, em⟩ := hacc
    rw [Nat.sub_self]
    show LO h' t (acc ++ [])
    rw [List.append_nil]
    exact ⟨m, hk' _ _ htw em⟩
  | succ k ih =>
    intro i s t acc c hk hi hst hsl hS0 htS htw hacc hits hlen hR
    have hlt : i < items.size := by omega
    refine codeAny_builtin F.entry_sum_loop ?_
    rw [Around.under_plainId F.plain_sum_loop _]
    show wpAny _ A.in1 (seqItems? (.ref S) >>= _) _ _ s
    refine wpAny_bind (wpAny_seqItems hS0 rfl ?_)
    show wpAny _ A.in1 (tryCatch (pyNext (.ref I)) _ >>= _) _ _ s
    have hv0 : items[i]? = some items[i] := by simp [hlt]
    refine wpAny_bind (wpAny_tryCatch (wpAny_pyNext_list_item hst hsl hv0 fun h' hst' sb' => ?_))
    have ev := hP i _ hv0
    rw [ev]
    have hk' : ∀ b o, b ≠ I → s.heap.get? b = some o → h'.get? b = some o := fun b o hb e => (sb'.2 b hb).trans e
    have hS' := hk' S _ hSI hS0
    obtain ⟨m, em⟩ := hacc
    have em' := hk' t _ htw em
    obtain ⟨m2, em2⟩ := hits i (Nat.le_refl _) hlt
    have em2' := hk' (as i) _ (hS i hlt).2 em2
    have er : List.range' i (items.size - i) = i :: List.range' (i + 1) (items.size - (i + 1)) := by
      rw [show items.size - i = (items.size - (i + 1)) + 1 by omega, List.range'_succ]
    rw [er, List.flatMap_cons, List.length_append] at hlen
    show wpAny _ A.in1 (Sem.attempt (holding [.ref (as i)] (binaryOp .Add (.ref t) (.ref (as i)))) >>= _) _ _ _
    refine wpAny_bind (wpAny_attempt (wpAny_holding (PySem.P.add_list em' em2' ?_ ?_)))
    · show wpAny _ A.in1 (updateSeq S (fun _ => #[.ref h'.objs.size]) >>= _) _ _ { s with heap := h'.push { cls := .type "list", data := .seq (acc.toArray ++ (its i).toArray) } }
      have hS2 : (h'.push { cls := .type "list", data := .seq (acc.toArray ++ (its i).toArray) }).get? S = some { cls := .type "list", dict := none, data := .seq #[.ref t] c, slots := #[] } := Heap.get?_push_of_some _ hS'
      have hNew : (h'.push { cls := .type "list", data := .seq (acc.toArray ++ (its i).toArray) }).get? h'.objs.size = some { cls := .type "list", data := .seq (acc.toArray ++ (its i).toArray) } := Heap.get?_push_size _ rfl
      have hNS : h'.objs.size ≠ S := Nat.ne_of_gt (Heap.lt_size hS')
      have hNI : h'.objs.size ≠ I := Nat.ne_of_gt (by obtain ⟨o, e, _⟩ := hst'; exact Heap.lt_size e)
      have kp : ∀ b o, h'.get? b = some o → (h'.push { cls := .type "list", data := .seq (acc.toArray ++ (its i).toArray) }).get? b = some o := fun b o e => Heap.get?_push_of_some _ e
      have z2 : (h'.push { cls := .type "list", data := .seq (acc.toArray ++ (its i).toArray) }).objs.size = h'.objs.size + 1 := Heap.size_push ..
      generalize h'.push { cls := .type "list", data := .seq (acc.toArray ++ (its i).toArray) } = h2 at hS2 hNew kp z2 ⊢
      refine wpAny_bind (wpAny_updateSeq hS2 rfl ?_)
      refine wpAny_bind (wpAny_letGo ?_)
      have hS3 := Heap.get?_update_self (Obj.mapSeq fun _ => #[Value.ref h'.objs.size]) hS2 rfl
      show wpAny _ A.in1 (updateSeq S (fun _ => #[.ref h'.objs.size]) >>= _) _ _ { s with heap := h2.update S (Obj.mapSeq fun _ => #[Value.ref h'.objs.size]) }
      have hn3 : ∀ b o, b ≠ S → h2.get? b = some o → (h2.update S (Obj.mapSeq fun _ => #[Value.ref h'.objs.size])).get? b = some o := fun b o hb e => (Heap.get?_update_other _ _ (Ne.symm hb)).trans e
      have z3 : (h2.update S (Obj.mapSeq fun _ => #[Value.ref h'.objs.size])).objs.size = h2.objs.size := (Heap.SameBut.update h2 S _).1
      generalize h2.update S (Obj.mapSeq fun _ => #[Value.ref h'.objs.size]) = h3 at hS3 hn3 z3 ⊢
      refine wpAny_bind (wpAny_updateSeq hS3 rfl ?_)
      have hS4 := Heap.get?_update_self (Obj.mapSeq fun _ => #[Value.ref h'.objs.size]) hS3 rfl
      have hn4 : ∀ b o, b ≠ S → h3.get? b = some o → (h3.update S (Obj.mapSeq fun _ => #[Value.ref h'.objs.size])).get? b = some o := fun b o hb e => (Heap.get?_update_other _ _ (Ne.symm hb)).trans e
      have z4 : (h3.update S (Obj.mapSeq fun _ => #[Value.ref h'.objs.size])).objs.size = h3.objs.size := (Heap.SameBut.update h3 S _).1
      have up : ∀ b o, b ≠ S → h'.get? b = some o → (h3.update S (Obj.mapSeq fun _ => #[Value.ref h'.objs.size])).get? b = some o := fun b o hb e => hn4 b o hb (hn3 b o hb (kp b o e))
      have hN4 := hn4 _ _ hNS (hn3 _ _ hNS hNew)
      generalize h3.update S (Obj.mapSeq fun _ => #[Value.ref h'.objs.size]) = h4 at hS4 hn4 up hN4 z4 ⊢
      have hsz : h'.objs.size = s.heap.objs.size := sb'.1
      refine wpAny_pure ⟨plainId_quiet F.plain_sum_loop _, ih (i + 1) { s with heap := h4 } h'.objs.size (acc ++ its i) _ (by omega) hlt (hst'.at fun o e => up I o (Ne.symm hSI) e) (hsl.at fun o e => up ax o (Ne.symm hSa) (hk' ax o has e)) hS4 hNS hNI ⟨0, by rw [show (acc ++ its i).toArray = acc.toArray ++ (its i).toArray by simp]; exact hN4⟩ (fun j hj1 hj2 => ?_) (by rw [List.length_append]; omega) fun h'' tk'' t'' hk'' hL hsz2 => ?_⟩
      · obtain ⟨m3, em3⟩ := hits j (by omega) hj2
        exact ⟨m3, up _ _ (hS j hj2).1 (hk' _ _ (hS j hj2).2 em3)⟩
      · refine hR h'' tk'' t'' (fun b o hbw hbS e => hk'' b o hbw hbS (up b o hbS (hk' b o hbw e))) ?_ ?_
        · rw [er, List.flatMap_cons, ← List.append_assoc]
          exact hL
        · have hsz3 : h4.objs.size ≤ t'' ∨ (t'' = h'.objs.size ∧ i + 1 = items.size) := hsz2
          rcases hsz3 with z | z
          · exact .inl (Nat.le_trans (by rw [z4, z3, z2, hsz]; exact Nat.le_succ _) z)
          · exact .inl (by rw [z.1, hsz]; exact Nat.le_refl _)
    · rw [List.size_toArray, List.size_toArray]
      omega
theorem call_sumL {E : Value → Shared → Prop} {s : Shared} {t : Addr} {acc : List Value} {Q : Value → Shared → Prop} (hh : A.handled = none) (hl : s.heap.IsList ax items) (ht : LO s.heap t acc) (as : Nat → Addr) (its : Nat → List Value)
    (hP : ∀ (i : Nat) (v : Value), items[i]? = some v → v = Value.ref (as i)) (hits : ∀ j, j < items.size → LO s.heap (as j) (its j)) (hlen : acc.length + ((List.range items.size).flatMap its).length ≤ sizeLine) (hpos : 0 < items.size)
    (h : ∀ h' tk t', (∀ b o, s.heap.get? b = some o → h'.get? b = some o) → LO h' t' (acc ++ (List.range items.size).flatMap its) → s.heap.objs.size ≤ t' → Q (.ref t') { s with heap := h', toks := tk }) :
    wpAny (model prog w) A (call (.builtin "sum") [.ref ax, .ref t]) Q E s := by
  refine call_function_tree F.kind_sum F.plain_sum F.entry_sum (args_sum2 _ _) ?_
  unfold Builtin.«sum»
  simp only [List.length_cons, List.length_nil]
  rw [if_neg (by decide)]
  refine wpAny_bind (wpAny_of_eq (show Builtin.Builtins.bindParams "sum" ["start"] 0 { pos := [.ref t] } = pure [some (.ref t)] from rfl) ?_)
  refine wpAny_bind (wpAny_pyIter_list hl ?_)
  refine wpAny_bind (wpAny_pure ?_)
  obtain ⟨m, em⟩ := ht
  have emP : (s.heap.push { cls := .type "list_iterator", data := .fields #[.ref ax, .int 0 0] }).get? t = some { cls := .type "list", data := .seq acc.toArray m } := Heap.get?_push_of_some _ em
  have hT : Shared.TypeIs { s with heap := s.heap.push { cls := .type "list_iterator", data := .fields #[.ref ax, .int 0 0] } } (.ref t) "list" := ⟨_, emP, rfl⟩
  simp only [List.forIn_cons, List.forIn_nil]
  refine wpAny_bind (wpAny_bind (wpAny_bind (wpAny_isInstance (T := "list") (b := false) hT lstSub_str ?_)))
  simp only [Bool.false_eq_true, if_false]
  refine wpAny_pure (wpAny_bind (wpAny_bind (wpAny_isInstance (T := "list") (b := false) hT lstSub_bytes ?_)))
  simp only [Bool.false_eq_true, if_false]
  refine wpAny_pure (wpAny_bind (wpAny_bind (wpAny_isInstance (T := "list") (b := false) hT lstSub_bytearray ?_)))
  simp only [Bool.false_eq_true, if_false]
  refine wpAny_pure (wpAny_pure ?_)
  refine wpAny_bind (wpAny_newObj_type ?_)
  have z1 : (s.heap.push { cls := .type "list_iterator", data := .fields #[.ref ax, .int 0 0] }).objs.size = s.heap.objs.size + 1 := Heap.size_push ..
  have axl : ax < s.heap.objs.size := by obtain ⟨o, e, _⟩ := hl; exact Heap.lt_size e
  have kp : ∀ b o, s.heap.get? b = some o → ((s.heap.push { cls := .type "list_iterator", data := .fields #[.ref ax, .int 0 0] }).push { cls := .type "list", data := .seq #[.ref t] }).get? b = some o := fun b o e => Heap.get?_push_of_some _ (Heap.get?_push_of_some _ e)
  have lt : ∀ {b us}, LO s.heap b us → b < s.heap.objs.size := fun ⟨_, e⟩ => Heap.lt_size e
  refine wpAny_pure ⟨plainId_quiet F.plain_sum_loop _, code_sumL_loop (A := A) hh (s.heap.push { cls := .type "list_iterator", data := .fields #[.ref ax, .int 0 0] }).objs.size (by rw [z1]; exact Nat.succ_ne_self _) (by rw [z1]; exact Nat.ne_of_gt (Nat.lt_succ_of_lt axl)) (Nat.ne_of_lt axl) as its hP
    (fun i hi => ⟨by rw [z1]; exact Nat.ne_of_lt (Nat.lt_succ_of_lt (lt (hits i hi))), Nat.ne_of_lt (lt (hits i hi))⟩) items.size 0 { s with heap := (s.heap.push { cls := .type "list_iterator", data := .fields #[.ref ax, .int 0 0] }).push { cls := .type "list", data := .seq #[.ref t] } } t acc 0 rfl (Nat.zero_le _)
    ⟨_, Heap.get?_push_of_some _ (Heap.get?_push_size _ rfl), rfl, rfl⟩ (hl.at fun o e => kp _ o e) (Heap.get?_push_size _ rfl) (by rw [z1]; exact Nat.ne_of_lt (Nat.lt_succ_of_lt (Heap.lt_size em))) (Nat.ne_of_lt (Heap.lt_size em)) ⟨m, kp _ _ em⟩
    (fun j _ hj => by obtain ⟨m2, e2⟩ := hits j hj; exact ⟨m2, kp _ _ e2⟩) (by rw [Nat.sub_zero, ← List.range_eq_range']; exact hlen) fun h' tk t' hk hL hsz => ?_⟩
  rw [Nat.sub_zero, ← List.range_eq_range'] at hL
  refine h h' tk t' (fun b o e => hk b o (Nat.ne_of_lt (Heap.lt_size e)) (by rw [z1]; exact Nat.ne_of_lt (Nat.lt_succ_of_lt (Heap.lt_size e))) (kp b o e)) hL ?_
  rcases hsz with q | q
  · have z2 : ((s.heap.push { cls := .type "list_iterator", data := .fields #[.ref ax, .int 0 0] }).push { cls := .type "list", data := .seq #[.ref t] }).objs.size = s.heap.objs.size + 1 + 1 := by rw [Heap.size_push, z1]
    have q' : ((s.heap.push { cls := .type "list_iterator", data := .fields #[.ref ax, .int 0 0] }).push { cls := .type "list", data := .seq #[.ref t] }).objs.size ≤ t' := q
    rw [z2] at q'
    exact Nat.le_trans (Nat.le_succ _) (Nat.le_trans (Nat.le_succ _) q')
  · omega
end
/-- sum(lists, list): at least one list is added -/
def rSumL : List V → Hp → VK → Prop := fun vs H Q => ∃ (a t : Addr) (ls : List Addr) (its : Nat → List V) (xs0 : List V), vs = [.ref a, .ref t] ∧ H a = some (.lst (ls.map V.ref)) ∧ H t = some (.lst xs0) ∧ (∀ i l, ls[i]? = some l → H l = some (.lst (its i))) ∧ 0 < ls.length ∧
  xs0.length + ((List.range ls.length).flatMap its).length ≤ sizeLine ∧ ∀ p, H p = none → Q (.ref p) (upd H p (.lst (xs0 ++ (List.range ls.length).flatMap its)))
theorem vals_flat {f : Nat → List V} {g : Nat → List Value} : ∀ (l : List Nat), (∀ i ∈ l, Vals (f i) (g i)) → Vals (l.flatMap f) (l.flatMap g)
  | [], _ => .nil
  | x :: r, h => by
    rw [List.flatMap_cons, List.flatMap_cons]
    exact (h x List.mem_cons_self).append (vals_flat r fun i hi => h i (List.mem_cons_of_mem _ hi))
theorem cr_sumL {X : Cx} (hc : X.calm = true) : CallR X (.builtin "sum") rSumL := by
  intro pins s σ H vs us Q I r h
  obtain ⟨a, t, ls, its, xs0, rfl, ha, ht, hls, hpos, hlen, q⟩ := h
  obtain ⟨u1, u2, rfl, ru1, ru2⟩ := vals2 r
  obtain rfl : u1 = Value.ref a := ru1
  obtain rfl : u2 = Value.ref t := ru2
  obtain ⟨_, ia, na, ra, la, ea⟩ := I.lstM ha
  obtain ⟨_, it0, nt, rt, lt, et⟩ := I.lstM ht
  have eia : ia = ls.map Value.ref := by
    have : ∀ (ls : List Addr) (us : List Value), Vals (ls.map V.ref) us → us = ls.map Value.ref := by
      intro ls
      induction ls with
      | nil => intro us h; cases h; rfl
      | cons x r ih =>
        intro us h
        cases h with
        | cons h1 h2 => rw [ih _ h2]; cases h1; rfl
    exact this ls ia ra
  subst eia
  have hsz : (ls.map Value.ref).toArray.size = ls.length := by rw [List.size_toArray, List.length_map]
  -- the lists' own items
  have ex : ∀ i, ∃ us : List Value, i < ls.length → Vals (its i) us ∧ LO s.heap (ls.getD i 0) us := fun i => by
    by_cases hi : i < ls.length
    · have e : ls[i]? = some ls[i] := List.getElem?_eq_getElem hi
      obtain ⟨_, us, n, r1, _, e1⟩ := I.lstM (hls i _ e)
      exact ⟨us, fun _ => ⟨r1, n, by rw [List.getD_eq_getElem?_getD, e]; exact e1⟩⟩
    · exact ⟨[], fun h => absurd h hi⟩
  let g : Nat → List Value := fun i => (ex i).choose
  have hg : ∀ i, i < ls.length → Vals (its i) (g i) ∧ LO s.heap (ls.getD i 0) (g i) := fun i hi => (ex i).choose_spec hi
  have vf : Vals ((List.range ls.length).flatMap its) ((List.range ls.length).flatMap g) := vals_flat _ fun i hi => (hg i (List.mem_range.mp hi)).1
  have lf : ((List.range ls.length).flatMap g).length = ((List.range ls.length).flatMap its).length := vf.length.symm
  refine call_sumL (items := (ls.map Value.ref).toArray) (I.ok.hd hc) (IsL.isList (n := na) ea) ⟨nt, et⟩ (fun i => ls.getD i 0) g (fun i v hv => ?_) (fun j hj => (hg j (by rw [hsz] at hj; exact hj)).2) (by rw [hsz, lf, ← lt]; exact hlen) (by rw [hsz]; exact hpos) fun h' tk t' hk hL hnew => ?_
  · rw [List.getElem?_toArray, List.getElem?_map] at hv
    rw [List.getD_eq_getElem?_getD]
    cases e : ls[i]? with
    | none => rw [e] at hv; cases hv
    | some l => rw [e] at hv; exact (Option.some.inj hv).symm
  · obtain ⟨n, en⟩ := hL
    rw [hsz] at en
    have fr := I.hok.fresh hnew
    refine ⟨.ref t', upd H t' (.lst (xs0 ++ (List.range ls.length).flatMap its)), I.laid (t' := tk) hk hnew ⟨?_, it0 ++ (List.range ls.length).flatMap g, n, rt.append vf, en⟩, rfl, q t' fr⟩
    rw [List.length_append]
    exact hlen
end Sly

set_option Elab.async false
set_option linter.all false
set_option maxRecDepth 100000
set_option maxHeartbeats 4000000
/-! Walks: _law_rows_of. -/
namespace Sly
open PySem PySem.Spec PyProof.Rows L2
open PySem.W (Datum DatumOrd Tup T3)
theorem allRows_pos {α : Type} (parts : List (List α)) (h : ∀ p ∈ parts, 0 < p.length) : 0 < (allRows parts).length := by
  rw [allRows_eq]
  induction parts with
  | nil => exact Nat.one_pos
  | cons p ps ih =>
    have q := ih fun p hp => h p (List.mem_cons_of_mem _ hp)
    have hp := h p List.mem_cons_self
    cases p with
    | nil => simp at hp
    | cons x r =>
      show 0 < (List.flatMap (fun x => (rowsF ps).map (x :: ·)) (x :: r)).length
      rw [List.flatMap_cons, List.length_append, List.length_map]
      omega
theorem HoA.flat {α : Type} [DecidableEq α] [Datum α] {H : Hp} {f : Nat → List V} {g : Nat → List α} : ∀ (l : List Nat), (∀ i ∈ l, HoA H (f i) (g i)) → HoA H (l.flatMap f) (l.flatMap g)
  | [], _ => HoA.nil
  | x :: r, h => by
    rw [List.flatMap_cons, List.flatMap_cons]
    exact (h x List.mem_cons_self).append (HoA.flat r fun i hi => h i (List.mem_cons_of_mem _ hi))
theorem range_flat {α β : Type} (xs : List α) (f : α → List β) : (List.range xs.length).flatMap (fun i => (xs[i]?.map f).getD []) = xs.flatMap f := by
  have key : ∀ (ys : List α) (k : Nat), (∀ i, ys[i]? = xs[k + i]?) → (List.range' k ys.length).flatMap (fun i => (xs[i]?.map f).getD []) = ys.flatMap f := by
    intro ys
    induction ys with
    | nil => intro k _; rfl
    | cons y r ih =>
      intro k hk
      have h0 : xs[k]? = some y := by
        have := hk 0
        simpa using this.symm
      have hr := ih (k + 1) fun i => by
        have := hk (i + 1)
        rw [show k + 1 + i = k + (i + 1) by omega, ← this]
        simp
      rw [List.length_cons, List.range'_succ, List.flatMap_cons, h0, List.flatMap_cons, hr]
      rfl
  have := key xs 0 fun i => by simp
  rw [List.range_eq_range']
  exact this
section
variable {P : Program} {w : PySem.World} {K : PySem.W.Frag} {mg : Str → Option Value} {base : Heap}
/-- row + (one,) -/
theorem cat1 {α : Type} [DecidableEq α] [Datum α] {H' : Hp} {v u : V} {r : Tup α} {o : α} {Q : VK} (hv : Ho H' v r) (hu : Ho H' u o) (hl : r.items.length ≤ 100) (hP : ∀ z H4, Same H' H4 → Ho H4 z (Tup.mk (r.items ++ [o])) → Q z H4) :
    1 ≤ sizeLine ∧ ∀ b, H' b = none → rCatA K v (.ref b) (upd H' b (.tup [u])) Q := by
  obtain ⟨a2, zs, rfl, ha2, hz⟩ := ho_tup hv
  have hzl : zs.length ≤ 100 := by rw [hz.length]; exact hl
  refine ⟨small_le (by show 1 ≤ 1000000; decide), fun b hb => ?_⟩
  have s2 : Same H' (upd H' b (.tup [u])) := Same.new hb
  refine ⟨a2, b, zs, [u], rfl, rfl, SqT.of (s2 _ _ ha2), SqT.of upd_same, small_le (by rw [List.length_singleton]; omega), fun e => ?_, (fun _ e => nomatch e), fun _ _ c hc => ?_⟩
  · subst e
    have er : r.items = [] := by
      have := hz.length
      exact List.eq_nil_of_length_eq_zero this.symm
    refine hP _ _ s2 ?_
    rw [er]
    exact Ho.tup upd_same (.cons (hu.up s2) .nil)
  · have s3 := Same.trans s2 (Same.new (o := HO.tup (zs ++ [u])) hc)
    exact hP _ _ s3 (Ho.tup upd_same ((hz.up s3).snoc (hu.up s3)))
def spRowsOf (α : Type) [DecidableEq α] [Datum α] : Sp := fun vs H Q _ => ∃ (p : Addr) (parts : List (Tup α)), vs = [.ref p] ∧ Ls H p parts ∧ parts.length ≤ 5 ∧ (∀ t ∈ parts, 0 < t.items.length ∧ t.items.length ≤ 4) ∧
  ∀ q H', Same H H' → H q = none → Ls H' q ((allRows (parts.map (·.items))).map Tup.mk) → Q (.ref q) H'
theorem ok_rows_of {α : Type} [DecidableEq α] [Datum α] {f : Addr} {fd : FuncData} {k : Nat} (F : Fun K "_law_rows_of" "_law_rows_of" sLawRowsOf f fd) (B : Blt mg) : FnOk P w K mg base CX0 (k + 1) f fd ["parts"] (spRowsOf α) := by
  refine F.ok scLawRowsOf (fun vs H Q E h => ?_) (fun cdv A outer s H vs Q E hr h => ?_)
  · obtain ⟨p, parts, rfl, _⟩ := h
    rfl
  · obtain ⟨p, parts, rfl, ⟨us, hp, hu⟩, hl, h4, q⟩ := h
    have nd := scLawRowsOf.nd
    refine ⟨_, pss_cons (ps_set (i := 1) nd rfl (.inl rfl) (pe_lst (pa_cons (pe_tup pa_nil) pa_nil)))
      (pss_cons (ps_for PassesOwn.never rfl (pi_list (pv 0)) (pg_name (i := 2) nd rfl (.inr rfl))
        (pss_one (ps_set (i := 1) nd rfl (.inl rfl) (pe_callB (cr_sumL rfl) (by rfl) B.sum b_sum (pa_cons
          (pe_lc (own := [("row", 3)]) (g := gName 3) (tt := tYes) (te := tLc (iTup K (tVar 2)) (gName 4) tYes (tOp (rCatA K) (tVar 3) (tTup (tCons (tVar 4) tNil))) [4]) rfl nd (pi_list (pv 1)) (blkOk_by (N := nLawRowsOf) (sc := defScope sLawRowsOf) (by decide +kernel)) (fun _ _ _ _ _ => pg_name (i := 3) nd rfl (.inr rfl))
            (fun _ _ _ _ _ => pts_nil)
            (fun _ _ _ _ _ => pe_lc (own := [("one", 4)]) (g := gName 4) (tt := tYes) (te := tOp (rCatA K) (tVar 3) (tTup (tCons (tVar 4) tNil))) rfl nd (pi_tup (pv 2)) (blkOk_in (N := nLawRowsOf) (sc := defScope sLawRowsOf) (by decide +kernel)) (fun _ _ _ _ _ => pg_name (i := 4) nd rfl (.inl rfl)) (fun _ _ _ _ _ => pts_nil)
              (fun _ _ _ _ _ => pe_op op_catA (pv 3) (pe_tup (pa_cons (pv 4) pa_nil)))))
          (pa_cons (pe_lst pa_nil) pa_nil))))))
      (pss_one (ps_ret (pv 1)))), ?_⟩
    have hul : us.length = parts.length := hu.length
    refine ⟨small_le (by show 0 ≤ 1000000; decide), fun t ht => ⟨small_le (by show 1 ≤ 1000000; decide), fun q0 hq0 => ?_⟩⟩
    have sa : Same H (upd H t (.tup [])) := Same.new ht
    have sb := Same.trans sa (Same.new (o := HO.lst [V.ref t]) hq0)
    refine ⟨_, rfl, p, rfl, ⟨us, SqL.of (sb _ _ hp)⟩, for_it (walk_list (K := K) (a := p) (xs := us)) (fun n σ H' => ∃ q1 y2, σ = [some (.ref p), some (.ref q1), y2, none, none] ∧ Same H H' ∧ H q1 = none ∧ Ls H' q1 ((allRows ((parts.take n).map (·.items))).map (Tup.mk (α := α))))
      ⟨q0, none, rfl, sb, sa.free hq0, ⟨[.ref t], upd_same, .cons (Ho.tup (xs := []) ((Same.new hq0) _ _ upd_same) .nil) .nil⟩⟩ (fun n σ H' _ ⟨_, _, _, s1, _, _⟩ => SqL.of (s1 _ _ hp)) ?_ ?_⟩
    · rintro n x σ H1 H2 hn ⟨q1, y2, rfl, s1, n1, vs, e1, h1⟩ ⟨rfl, hx⟩
      have hx' : us[n]? = some x := hx
      obtain ⟨t1, ht1, ho1⟩ := (hu.up s1).back hx'
      obtain ⟨a1, ws, rfl, ha1, hw⟩ := ho_tup ho1
      have n5 : n < parts.length := by omega
      have ht4 := h4 t1 (List.mem_of_getElem? ht1)
      -- the rows so far
      have hrl : ∀ r ∈ (allRows ((parts.take n).map (·.items))).map (Tup.mk (α := α)), r.items.length ≤ 100 := by
        intro r hr
        obtain ⟨r0, hr0, rfl⟩ := List.mem_map.mp hr
        rw [allRows_eq] at hr0
        have e := (mem_rowsF hr0).1
        rw [List.length_map, List.length_take] at e
        show r0.length ≤ 100
        omega
      have hrn : ((allRows ((parts.take n).map (·.items))).map (Tup.mk (α := α))).length ≤ 1024 := by
        rw [List.length_map]
        refine Nat.le_trans (allRows_length 0 5 _ (by rw [List.length_map, List.length_take]; omega) fun p hp => ?_) (by decide)
        obtain ⟨t, ht, rfl⟩ := List.mem_map.mp hp
        exact (h4 t (List.mem_of_mem_take ht)).2
      have hrp : 0 < ((allRows ((parts.take n).map (·.items))).map (Tup.mk (α := α))).length := by
        rw [List.length_map]
        refine allRows_pos _ fun p hp => ?_
        obtain ⟨t, ht, rfl⟩ := List.mem_map.mp hp
        exact (h4 t (List.mem_of_mem_take ht)).1
      have enext : (allRows ((parts.take (n + 1)).map (·.items))).map (Tup.mk (α := α)) = ((allRows ((parts.take n).map (·.items))).map Tup.mk).flatMap fun x => t1.items.map fun o => Tup.mk (x.items ++ [o]) := by
        rw [List.take_add_one, ht1, Option.toList_some, List.map_append, List.map_singleton, allRows_snoc, List.flatMap_map, List.map_flatMap]
        congr 1
        funext row
        rw [List.map_map]
        rfl
      generalize (allRows ((parts.take n).map (·.items))).map (Tup.mk (α := α)) = rows at h1 hrl hrn hrp enext
      have hvl : vs.length = rows.length := h1.length
      refine ⟨_, rfl, q1, rfl, ⟨vs, SqL.of e1⟩, fun D hD => ?_⟩
      let ext : Tup α → List (Tup α) := fun r => t1.items.map fun o => Tup.mk (r.items ++ [o])
      refine lc_it (walk_list (K := K) (a := q1) (xs := vs)) (fun i H' => Same H2 H' ∧ ∃ ls : List Addr, H' D = some (.lst (ls.map V.ref)) ∧ ls.length = i ∧ D ∉ ls ∧ ∀ (j : Nat) (l : Addr), ls[j]? = some l → Ls H' l ((rows[j]?.map ext).getD [])) ⟨Same.new hD, [], upd_same, rfl, by simp, fun j l e => by simp at e⟩ (fun i H' _ g => SqL.of (g.1 _ _ e1)) ?_ ?_
      · rintro i v H3 H4 hi ⟨s3, ls, eD, hll, hDl, hls⟩ ⟨rfl, hv⟩
        have hv' : vs[i]? = some v := hv
        obtain ⟨r, er, hr⟩ := (h1.up s3).back hv'
        refine ⟨rfl, yes ?_⟩
        refine ⟨_, rfl, a1, rfl, ⟨ws, SqT.of (s3 _ _ ha1)⟩, fun D2 hD2 => ?_⟩
        refine lc_seq (walk_tup (K := K) (a := a1) (xs := ws)) hD2 (fun o => some (Tup.mk (r.items ++ [o]))) (hw.up s3) (by omega) (fun H s => SqT.of (s _ _ (s3 _ _ ha1))) ?_ ?_
        · intro o u H5 P1 P0 _ s5 hu5 hP _
          exact ⟨rfl, yes ⟨_, rfl, _, rfl, cat1 (hr.up s5) hu5 (hrl r (List.mem_of_getElem? er)) fun z H6 s6 hz => hP z H6 _ s6 rfl hz⟩⟩
        · intro H5 s5 h5
          rw [fm_map] at h5
          have eD5 := s5 _ _ eD
          have nDD : D2 ≠ D := fun z => by rw [z, eD] at hD2; cases hD2
          have nt : ∀ xs, H5 D ≠ some (.tup xs) := fun xs z => by rw [eD5] at z; cases z
          refine ⟨ls.map V.ref, eD5, small_of (by rw [List.length_map]; omega), Same.mut (Same.trans s3 s5) hD, ls ++ [D2], by rw [upd_same, List.map_append]; rfl, by rw [List.length_append, List.length_singleton, hll], ?_, fun j l e => ?_⟩
          · intro hm
            rcases List.mem_append.mp hm with z | z
            · exact hDl z
            · exact nDD (by simpa using z : D = D2).symm
          · by_cases hj : j < ls.length
            · rw [List.getElem?_append_left hj] at e
              exact ((hls j l e).up s5).putN (fun z => hDl (z ▸ List.mem_of_getElem? e)) nt
            · have hj2 : j = ls.length := by
                have := (List.getElem?_eq_some_iff.mp e).1
                rw [List.length_append, List.length_singleton] at this
                omega
              subst hj2
              rw [List.getElem?_append_right (Nat.le_refl _), Nat.sub_self] at e
              have el : l = D2 := by simpa using e.symm
              subst el
              rw [hll, er]
              exact h5.putN nDD nt
      · rintro H3 ⟨s3, ls, eD, hll, hDl, hls⟩
        refine ⟨small_le (by show 0 ≤ 1000000; decide), fun z hz => ?_⟩
        have sz : Same H3 (upd H3 z (.lst [])) := Same.new hz
        have ex : ∀ i : Nat, ∃ xs : List V, ∀ l : Addr, ls[i]? = some l → H3 l = some (.lst xs) ∧ HoA H3 xs ((rows[i]?.map ext).getD []) := fun i => by
          cases e : ls[i]? with
          | none => exact ⟨[], fun l e => by cases e⟩
          | some l =>
            obtain ⟨xs, e1, e2⟩ := hls i l e
            exact ⟨xs, fun l' e' => by cases e'; exact ⟨e1, e2⟩⟩
        let its : Nat → List V := fun i => (ex i).choose
        have hits : ∀ (i : Nat) (l : Addr), ls[i]? = some l → H3 l = some (.lst (its i)) ∧ HoA H3 (its i) ((rows[i]?.map ext).getD []) := fun i => (ex i).choose_spec
        have hll2 : ls.length = rows.length := by omega
        have hflat : HoA H3 ((List.range ls.length).flatMap its) (rows.flatMap ext) := by
          rw [← range_flat rows ext, ← hll2]
          refine HoA.flat _ fun i hi => ?_
          have hi' := List.mem_range.mp hi
          exact (hits i _ (List.getElem?_eq_getElem hi')).2
        have hfl : ((List.range ls.length).flatMap its).length ≤ 1000000 := by
          rw [hflat.length]
          have : ∀ rs : List (Tup α), (rs.flatMap ext).length = rs.length * t1.items.length := by
            intro rs
            induction rs with
            | nil => simp
            | cons x r ih =>
              rw [List.flatMap_cons, List.length_append, ih, List.length_cons, Nat.succ_mul]
              show (t1.items.map _).length + _ = _
              rw [List.length_map, Nat.add_comm]
          rw [this]
          exact Nat.le_trans (Nat.mul_le_mul hrn ht4.2) (by decide)
        refine ⟨D, z, ls, its, [], rfl, sz _ _ eD, upd_same, fun i l e => sz _ _ (hits i l e).1, by omega, small_le (by show 0 + _ ≤ _; omega), fun q2 hq2 => ?_⟩
        have s2 : Same _ _ := Same.new (o := HO.lst ([] ++ (List.range ls.length).flatMap its)) hq2
        have sA := Same.trans (Same.trans s1 s3) (Same.trans sz s2)
        refine ⟨q2, _, rfl, sA, (Same.trans (Same.trans s1 s3) sz).free hq2, _, upd_same, ?_⟩
        rw [enext]
        exact (hflat.up sz).up s2
    · rintro σ H1 ⟨q1, y2, rfl, s1, n1, h1⟩
      rw [show us.length = parts.length from hul, List.take_length] at h1
      exact ⟨_, rfl, q q1 H1 s1 n1 h1⟩
end
end Sly

set_option Elab.async false
set_option linter.all false
set_option maxRecDepth 100000
set_option maxHeartbeats 4000000
/-! Walks: _law_worlds, _law_sign. -/
namespace Sly
open PySem PySem.Spec PyProof.Rows L2
open PySem.W (Datum DatumOrd Tup T3)
section
variable {P : Program} {w : PySem.World} {K : PySem.W.Frag} {mg : Str → Option Value} {base : Heap}
theorem ok_lworlds {f fA : Addr} {fd fdA : FuncData} (F : Fun K "_law_worlds" "_law_worlds" sLawWorlds f fd) (GA : ∀ (α : Type) [DecidableEq α] [Datum α], FnOk P w K mg base CX0 1 fA fdA ["parts"] (spRowsOf α)) (kA : PySem.W.keepIn K (.ref fA) = true) (bA : Binds K fdA ["parts"] []) (gA : mg "_law_rows_of" = some (.ref fA)) :
    FnOk P w K mg base CX0 2 f fd ["house"] spWorlds := by
  refine F.ok scLawWorlds (fun vs H Q E h => ?_) (fun cdv A outer s H vs Q E hr h => ?_)
  · obtain ⟨v, h, rfl, _⟩ := h
    rfl
  · obtain ⟨v, h, rfl, hv, hk, q⟩ := h
    have nd := scLawWorlds.nd
    obtain ⟨a, x, y, rfl, ha, hx, hy⟩ := ho_pair hv
    obtain ⟨ax, xs, rfl, hax, hxs⟩ := ho_tup hx
    obtain ⟨ay, ys, rfl, hay, hys⟩ := ho_tup hy
    refine ⟨_, pss_cons (ps_set (i := 1) nd rfl (.inl rfl) (pe_lst pa_nil))
      (pss_cons (ps_for PassesOwn.never rfl (pi_list (pe_call (GA Int) hr (by rfl) gA kA bA .nil pass0 (pa_cons (pe_lc (own := [("row", 3)]) (g := gName 3) (tt := tYes) (te := tOp (rIxT K) (tVar 3) (tC (.int 1))) rfl nd (pi_tup (pe_ix ix_tup (pv 0) pe_int (fun _ _ => rfl)))
          (blkOk_by (N := nLawWorlds) (sc := defScope sLawWorlds) (by decide +kernel)) (fun _ _ _ _ _ => pg_name (i := 3) nd rfl (.inl rfl)) (fun _ _ _ _ _ => pts_nil) (fun _ _ _ _ _ => pe_ix ix_tup (pv 3) pe_int (fun _ _ => rfl))) pa_nil))) (pg_name (i := 2) nd rfl (.inr rfl))
        (pss_one (ps_set (i := 1) nd rfl (.inl rfl) (pe_op op_cat (pv 1) (pe_lc (own := [("sorts", 4)]) (g := gName 4) (tt := tYes) (te := tTup (tCons (tVar 2) (tCons (tVar 4) tNil))) rfl nd (pi_list (pe_call (GA Srt) hr (by rfl) gA kA bA .nil pass0 (pa_cons (pe_lc (own := [("row", 3)]) (g := gName 3) (tt := tYes) (te := tOp (rIxT K) (tVar 3) (tC (.int 1))) rfl nd (pi_tup (pe_ix ix_tup (pv 0) pe_int (fun _ _ => rfl)))
          (blkOk_by (N := nLawWorlds) (sc := defScope sLawWorlds) (by decide +kernel)) (fun _ _ _ _ _ => pg_name (i := 3) nd rfl (.inl rfl)) (fun _ _ _ _ _ => pts_nil) (fun _ _ _ _ _ => pe_ix ix_tup (pv 3) pe_int (fun _ _ => rfl))) pa_nil)))
          (blkOk_by (N := nLawWorlds) (sc := defScope sLawWorlds) (by decide +kernel)) (fun _ _ _ _ _ => pg_name (i := 4) nd rfl (.inl rfl)) (fun _ _ _ _ _ => pts_nil) (fun _ _ _ _ _ => pe_tup (pa_cons (pv 2) (pa_cons (pv 4) pa_nil))))))))
      (pss_one (ps_ret (pv 1)))), ?_⟩
    have hk4 := hk.things
    have hk3 := hk.scales
    refine ⟨small_le (by show 0 ≤ 1000000; decide), fun f0 nf0 => ?_⟩
    have s0 : Same H (upd H f0 (.lst [])) := Same.new nf0
    refine ⟨_, rfl, a, _, 0, _, rfl, rfl, SqT.of (s0 _ _ ha), atI_nat (j := 0) rfl, ax, rfl, ⟨xs, SqT.of (s0 _ _ hax)⟩, fun D hD => lc_row1 hD (s0 _ _ hax) (hxs.up s0) (by omega) (fun _ => rfl) (fun _ => rfl) fun H1 s1 h1 => ?_⟩
    refine ⟨D, _, rfl, h1, by rw [List.length_map]; omega, fun t ht => ?_, fun q1 H2 s2 n2 h2 => ?_⟩
    · obtain ⟨t0, ht0, rfl⟩ := List.mem_map.mp ht
      exact ⟨(hk.wts t0 ht0).1, (hk.wts t0 ht0).2.1⟩
    have s02 := Same.trans s0 (Same.trans s1 s2)
    have ef0 := (Same.trans s1 s2) _ _ (upd_same (H := H) (a := f0) (o := .lst []))
    -- the two rows
    have eW : (allRows ((h.1.items.map (·.2)).map (·.items))).map (Tup.mk (α := Int)) = (allRows (h.1.items.map (·.2.items))).map Tup.mk := by rw [List.map_map]; rfl
    rw [eW] at h2
    have lW : ((allRows (h.1.items.map (·.2.items))).map (Tup.mk (α := Int))).length ≤ 256 := by
      rw [List.length_map]
      refine Nat.le_trans (allRows_length 0 4 _ (by rw [List.length_map]; exact hk.things) fun p hp => ?_) (by decide)
      obtain ⟨t, ht, rfl⟩ := List.mem_map.mp hp
      exact (hk.wts t ht).2.1
    have lS : ((allRows (h.2.items.map (·.2.items))).map (Tup.mk (α := Srt))).length ≤ 256 := by
      rw [List.length_map]
      refine Nat.le_trans (allRows_length 0 4 _ (by rw [List.length_map]; omega) fun p hp => ?_) (by decide)
      obtain ⟨t, ht, rfl⟩ := List.mem_map.mp hp
      exact (hk.srt t ht).2.1
    have eq : worldsOf h = ((allRows (h.1.items.map (·.2.items))).map (Tup.mk (α := Int))).flatMap fun ws => ((allRows (h.2.items.map (·.2.items))).map (Tup.mk (α := Srt))).map fun ss => (ws, ss) := rfl
    have eS : (allRows ((h.2.items.map (·.2)).map (·.items))).map (Tup.mk (α := Srt)) = (allRows (h.2.items.map (·.2.items))).map Tup.mk := by rw [List.map_map]; rfl
    rw [eq] at q
    generalize (allRows (h.1.items.map (·.2.items))).map (Tup.mk (α := Int)) = WR at h2 lW q
    generalize (allRows (h.2.items.map (·.2.items))).map (Tup.mk (α := Srt)) = SR at eS lS q
    obtain ⟨vs, e2, g2⟩ := h2
    have hvl : vs.length = WR.length := g2.length
    refine ⟨q1, rfl, ⟨vs, SqL.of e2⟩, for_it (walk_list (K := K) (a := q1) (xs := vs)) (fun n σ H' => ∃ f1 y2, σ = [some (.ref a), some (.ref f1), y2, none, none] ∧ Same H H' ∧ H f1 = none ∧ Ls H' f1 ((WR.take n).flatMap fun ws => SR.map fun ss => (ws, ss)) ∧ H' q1 = some (.lst vs) ∧ HoA H' vs WR)
      ⟨f0, none, rfl, s02, nf0, ⟨[], ef0, HoA.nil⟩, e2, g2⟩ (fun n σ H' _ ⟨_, _, _, _, _, _, e, _⟩ => SqL.of e) ?_ ?_⟩
    · rintro n v σ H3 H4 hn ⟨f1, y2, rfl, s3, n3, ⟨us, e3, g3⟩, eq1, gq1⟩ ⟨rfl, hv'⟩
      have hv2 : vs[n]? = some v := hv'
      obtain ⟨ws, ew, hw⟩ := gq1.back hv2
      refine ⟨_, rfl, _, rfl, a, _, 1, _, rfl, rfl, SqT.of (s3 _ _ ha), atI_nat (j := 1) rfl, ay, rfl, ⟨ys, SqT.of (s3 _ _ hay)⟩, fun D2 hD2 => lc_row1 hD2 (s3 _ _ hay) (hys.up s3) (by omega) (fun _ => rfl) (fun _ => rfl) fun H5 s5 h5 => ?_⟩
      refine ⟨D2, _, rfl, h5, by rw [List.length_map]; omega, fun t ht => ?_, fun q2 H6 s6 n6 h6 => ?_⟩
      · obtain ⟨t0, ht0, rfl⟩ := List.mem_map.mp ht
        exact ⟨(hk.srt t0 ht0).1, (hk.srt t0 ht0).2.1⟩
      rw [eS] at h6
      obtain ⟨zs, e6, g6⟩ := h6
      have hzl : zs.length = SR.length := g6.length
      have s56 := Same.trans s5 s6
      refine ⟨q2, rfl, ⟨zs, SqL.of e6⟩, fun D3 hD3 => ?_⟩
      refine lc_seq (walk_list (K := K) (a := q2) (xs := zs)) hD3 (fun ss : Tup Srt => some (ws, ss)) g6 (by omega) (fun H s => SqL.of (s _ _ e6)) ?_ ?_
      · intro ss u H7 P1 P0 _ s7 hu hP _
        refine ⟨rfl, yes ⟨_, rfl, _, rfl, small_le (by show 2 ≤ 1000000; decide), fun b hb => ?_⟩⟩
        exact hP _ _ (ws, ss) (Same.new hb) rfl (Ho.newPair hb ((hw.up s56).up s7) hu)
      · intro H7 s7 h7
        rw [fm_map] at h7
        obtain ⟨rs, e7, g7⟩ := h7
        have s57 := Same.trans s56 s7
        have lu : us.length ≤ 65536 := by
          rw [g3.length]
          have : ∀ l : List (Tup Int), (l.flatMap fun ws => SR.map fun ss => (ws, ss)).length = l.length * SR.length := by
            intro l
            induction l with
            | nil => simp
            | cons x r ih => rw [List.flatMap_cons, List.length_append, ih, List.length_map, List.length_cons, Nat.succ_mul, Nat.add_comm]
          rw [this]
          refine Nat.le_trans (Nat.mul_le_mul (Nat.le_trans (by rw [List.length_take]; exact Nat.min_le_right _ _) lW) lS) (by decide)
        have lr : rs.length ≤ 256 := by
          rw [g7.length, List.length_map]
          exact lS
        refine ⟨f1, D3, us, rs, rfl, rfl, s57 _ _ e3, e7, small_le (by omega), fun f2 nf2 => ?_⟩
        have s8 : Same H7 _ := Same.new (o := HO.lst (us ++ rs)) nf2
        have s38 := Same.trans s57 s8
        refine ⟨f2, _, rfl, Same.trans s3 s38, (Same.trans s3 s57).free nf2, ⟨_, upd_same, ?_⟩, s38 _ _ eq1, gq1.up s38⟩
        rw [List.take_add_one, ew, Option.toList_some, List.flatMap_append, List.flatMap_singleton]
        exact ((g3.up s57).up s8).append (g7.up s8)
    · rintro σ H3 ⟨f1, y2, rfl, s3, n3, h3, _, _⟩
      rw [hvl, List.take_length] at h3
      exact ⟨_, rfl, q f1 H3 s3 n3 h3⟩
end
end Sly

set_option Elab.async false
set_option linter.all false
set_option maxRecDepth 100000
set_option maxHeartbeats 4000000
/-! Walks: _law_sign, _law_tells. -/
namespace Sly
open PySem PySem.Spec PyProof.Rows L2
open PySem.W (Datum DatumOrd Tup T3)
theorem sgn_bd (n : Int) : -1 ≤ sgn n ∧ sgn n ≤ 1 := by
  unfold sgn
  split <;> split <;> omega
theorem fdiv_sgn {n : Int} (h : n ≠ 0) : n.fdiv (if n < 0 then -n else n) = sgn n := by
  unfold sgn
  by_cases hn : n < 0
  · rw [if_pos hn, if_neg (by omega), if_pos hn]
    rw [show -n = -n * 1 by omega]
    rw [show n = (-n) * (-1) by omega, show -(-n * -1) * 1 = -n by omega]
    rw [Int.mul_comm, Int.mul_fdiv_cancel _ (by omega)]
    decide
  · rw [if_neg hn, if_pos (by omega), if_neg (by omega), Int.fdiv_self h]
    decide
theorem lookI_bd {h : Hse} {wd : Wld} (hk : HseOk h) (hw : WldOk h wd) {x : Str} (hx : x ∈ names h.1.items) : 1 ≤ lookI (names h.1.items) wd.1.items x ∧ lookI (names h.1.items) wd.1.items x ≤ 9 := by
  obtain ⟨c, q1, q2⟩ := lookup_some x (names h.1.items) wd.1.items (by unfold names; rw [List.length_map, hw.wl]) hx
  unfold lookI
  rw [q1]
  exact hw.wb c q2
theorem sum_bd {f : Str → Int} : ∀ l : List Str, (∀ x ∈ l, 0 ≤ f x ∧ f x ≤ 9) → 0 ≤ (l.map f).sum ∧ (l.map f).sum ≤ 9 * l.length
  | [], _ => by simp
  | x :: r, h => by
    have h1 := h x List.mem_cons_self
    have h2 := sum_bd r fun y hy => h y (List.mem_cons_of_mem _ hy)
    rw [List.map_cons, List.sum_cons, List.length_cons]
    omega
theorem outw_bd {h : Hse} {wd : Wld} {g : Weigh} (hk : HseOk h) (hw : WldOk h wd) (hg : WeighOk h g) : -36 ≤ outw h wd g ∧ outw h wd g ≤ 36 := by
  have hl : ∀ l : List Str, l.Sublist (names h.1.items) → l.length ≤ 4 := fun l sl => by
    have e := sl.length_le
    unfold names at e
    rw [List.length_map] at e
    have := hk.things
    omega
  have h1 := sum_bd (f := lookI (names h.1.items) wd.1.items) g.b.items fun x hx => by
    have := lookI_bd hk hw (hg.left.subset hx)
    omega
  have h2 := sum_bd (f := lookI (names h.1.items) wd.1.items) g.c.items fun x hx => by
    have := lookI_bd hk hw (hg.right.subset hx)
    omega
  have h3 := hl _ hg.left
  have h4 := hl _ hg.right
  unfold outw
  omega
theorem mul_ite {o : Int} {c : Prop} [Decidable c] (h : -1 ≤ o ∧ o ≤ 1) : -1 ≤ o * (if c then 1 else 0) ∧ o * (if c then 1 else 0) ≤ 1 := by
  by_cases e : c
  · rw [if_pos e]
    omega
  · rw [if_neg e]
    omega
/-- values that are ints with p -/
def IntVals (p : Int → Prop) (kvs : List (L2.Key × V)) : Prop := ∀ k v, valV kvs k = some v → ∃ i, v = .int i ∧ p i
theorem IntVals.put {p : Int → Prop} {kvs : List (L2.Key × V)} (h : IntVals p kvs) (k : L2.Key) {i : Int} (hi : p i) : IntVals p (putK kvs k (.int i)) := fun j v e => by
  rw [valV_put] at e
  by_cases z : j = k
  · rw [if_pos z] at e
    exact ⟨i, (Option.some.inj e).symm, hi⟩
  · rw [if_neg z] at e
    exact h j v e
/-- d.get(k, 0) -/
theorem IntVals.get {p : Int → Prop} {kvs : List (L2.Key × V)} (h : IntVals p kvs) (k : L2.Key) (h0 : p 0) : ∃ i, (valV kvs k).getD (.int 0) = .int i ∧ p i := by
  cases e : valV kvs k with
  | none => exact ⟨0, rfl, h0⟩
  | some v =>
    obtain ⟨i, rfl, hi⟩ := h k v e
    exact ⟨i, rfl, hi⟩
section
variable {P : Program} {w : PySem.World} {K : PySem.W.Frag} {mg : Str → Option Value} {base : Heap}
def spLSign : Sp := fun vs H Q _ => ∃ n : Int, vs = [.int n] ∧ -1000 ≤ n ∧ n ≤ 1000 ∧ Q (.int (sgn n)) H
theorem ok_lsign {f : Addr} {fd : FuncData} {k : Nat} (F : Fun K "_law_sign" "_law_sign" sLawSign f fd) (B : Blt mg) : FnOk P w K mg base CX0 (k + 1) f fd ["number"] spLSign := by
  refine F.ok scLawSign (fun vs H Q E h => ?_) (fun cdv A outer s H vs Q E hr h => ?_)
  · obtain ⟨n, rfl, _⟩ := h
    rfl
  · obtain ⟨n, rfl, h1, h2, q⟩ := h
    refine ⟨_, pss_one (ps_ret (pe_ifExp (pt_cmpR op_eq (pv 0) pe_int (nomark _)) pe_int (pe_op op_fdivN (pv 0) (pe_callB call_abs (by rfl) B.abs b_abs (pa_cons (pv 0) pa_nil))))), ?_⟩
    refine ⟨_, rfl, rfl, _, rfl, ite2 (fun e => ?_) (fun e => ?_)⟩
    · have e0 : n = 0 := V.int.inj (of_decide_eq_true e)
      subst e0
      exact q
    · have n0 : n ≠ 0 := fun z => e (decide_eq_true (congrArg V.int z))
      refine ⟨_, rfl, _, rfl, _, rfl, _, _, rfl, rfl, ⟨?_, ?_⟩, ?_⟩
      · split <;> omega
      · split <;> omega
      · show Q (.int (n.fdiv (if n < 0 then -n else n))) H
        rw [fdiv_sgn n0]
        exact q
def spLTells : Sp := fun vs H Q _ => ∃ (v u : V) (p : Addr) (h : Hse) (wd : Wld) (row : List Weigh), vs = [v, u, .ref p] ∧ Ho H v h ∧ Ho H u wd ∧ Ls H p row ∧ HseOk h ∧ WldOk h wd ∧ RowOk h row ∧
  ∀ q H' (ts : List Int), Same H H' → H q = none → Ls H' q ts → ts.length = row.length → (∀ t ∈ ts, -1 ≤ t ∧ t ≤ 1) → Q (.ref q) H'
theorem ok_ltells {f fM fS : Addr} {fd fdM fdS : FuncData} (F : Fun K "_law_tells" "_law_tells" sLawTells f fd) (B : Blt mg)
    (GM : FnOk P w K mg base CX0 1 fM fdM ["house", "world", "weighing"] spOut) (kM : PySem.W.keepIn K (.ref fM) = true) (bM : Binds K fdM ["house", "world", "weighing"] []) (gM : mg "_law_more" = some (.ref fM))
    (GS : FnOk P w K mg base CX0 1 fS fdS ["number"] spLSign) (kS : PySem.W.keepIn K (.ref fS) = true) (bS : Binds K fdS ["number"] []) (gS : mg "_law_sign" = some (.ref fS)) :
    FnOk P w K mg base CX0 2 f fd ["house", "world", "row"] spLTells := by
  refine F.ok scLawTells (fun vs H Q E h => ?_) (fun cdv A outer s H vs Q E hr h => ?_)
  · obtain ⟨v, u, p, h, wd, row, rfl, _⟩ := h
    rfl
  · obtain ⟨v, u, p, h, wd, row, rfl, hv, hu, ⟨us, hp, hus⟩, hk, hw, hro, q⟩ := h
    have nd := scLawTells.nd
    refine ⟨_, pss_cons (ps_set (i := 3) nd rfl (.inl rfl) (pe_dictZip rfl (by rfl) B.dict (by rfl) B.zip (pa_cons (pe_lc (own := [("row_of", 12)]) (g := gName 12) (tt := tYes) (te := tOp (rIxT K) (tVar 12) (tC (.int 0))) rfl nd (pi_tup (pe_ix ix_tup (pv 0) pe_int (fun _ _ => rfl)))
        (blkOk_by (N := nLawTells) (sc := defScope sLawTells) (by decide +kernel)) (fun _ _ _ _ _ => pg_name (i := 12) nd rfl (.inl rfl)) (fun _ _ _ _ _ => pts_nil) (fun _ _ _ _ _ => pe_ix ix_tup (pv 12) pe_int (fun _ _ => rfl))) (pa_cons (pe_ix ix_tup (pv 1) pe_int (fun _ _ => rfl)) pa_nil))))
      (pss_cons (ps_par3 (i := 4) (j := 5) (l := 6) rfl nd rfl rfl rfl (by decide) (by decide) (by decide) rfl rfl rfl (pa_cons pe_dnewK (pa_cons pe_dnewK (pa_cons (pe_lst pa_nil) pa_nil))) rfl)
      (pss_cons (ps_for PassesOwn.never rfl (pi_list (pv 2)) (pg_name (i := 7) nd rfl (.inl rfl))
        (pss_cons (ps_par (i := 8) (j := 9) rfl nd rfl rfl (by decide) rfl rfl (pa_cons (pe_ix ix_tup (pv 7) pe_int (fun _ _ => rfl)) (pa_cons (pe_call GM hr (by rfl) gM kM bM .nil pass0 (pa_cons (pv 0) (pa_cons (pv 1) (pa_cons (pv 7) pa_nil)))) pa_nil)) rfl)
        (pss_cons (ps_par (i := 10) (j := 11) rfl nd rfl rfl (by decide) rfl rfl (pa_cons (pe_dget (hu_of hr) (pv 3) (pv 8) (fun _ _ => rfl)) (pa_cons (pe_call GS hr (by rfl) gS kS bS .nil pass0 (pa_cons (pv 9) pa_nil)) pa_nil)) rfl)
        (pss_cons (ps_if (pt_cmpR (op_eqT (α := Srt) hr.units (by decide)) (pv 10) (pe_tup (pa_cons pe_str pa_nil)) (nomark _))
          (pss_one (ps_expr (pe_bm PySem.F.plainAttrs_list PySem.F.slot_list_append PySem.F.type_list_append mt_append (pv 6) (pa_cons (pe_op op_sub pe_int (pv 11)) pa_nil))))
          (pss_one (ps_if (pt_cmpR op_eq (pe_ix ix_tup (pv 10) pe_int (fun _ _ => rfl)) pe_str (nomark _))
            (pss_one (ps_expr (pe_bm PySem.F.plainAttrs_list PySem.F.slot_list_append PySem.F.type_list_append mt_append (pv 6) (pa_cons (pe_call GS hr (by rfl) gS kS bS .nil pass0 (pa_cons (pe_op op_add (pv 9) (pe_ix ix_tup (pv 10) pe_int (fun _ _ => rfl))) pa_nil)) pa_nil))))
          (pss_one (ps_if (pt_cmpR op_eq (pe_ix ix_tup (pv 10) pe_int (fun _ _ => rfl)) pe_str (nomark _))
            (pss_one (ps_expr (pe_bm PySem.F.plainAttrs_list PySem.F.slot_list_append PySem.F.type_list_append mt_append (pv 6) (pa_cons (pe_op op_mul (pv 11) (pe_callTy call_int1 (by rfl) B.int b_int (pa_cons (pe_cmpR op_gt (pe_callB call_abs (by rfl) B.abs b_abs (pa_cons (pv 9) pa_nil)) (pe_ix ix_tup (pv 10) pe_int (fun _ _ => rfl)) (nomark _)) pa_nil))) pa_nil))))
          (pss_one (ps_if (pt_cmpR op_eq (pe_ix ix_tup (pv 10) pe_int (fun _ _ => rfl)) pe_str (nomark _))
            (pss_one (ps_expr (pe_bm PySem.F.plainAttrs_list PySem.F.slot_list_append PySem.F.type_list_append mt_append (pv 6) (pa_cons (pe_op op_mul (pv 11) (pe_op op_sub pe_int (pe_op op_mul pe_int (pe_op op_mod (pe_op op_add (pe_dget2 (hu_of hr) (pv 4) (pv 8) pe_int ⟨rfl, rfl, rfl, rfl⟩) (pe_ix ix_tup (pv 10) pe_int (fun _ _ => rfl))) pe_int)))) pa_nil))))
            (pss_one (ps_expr (pe_bm PySem.F.plainAttrs_list PySem.F.slot_list_append PySem.F.type_list_append mt_append (pv 6) (pa_cons (pe_ifExp (pt_cmpR (op_eqT (α := Srt) hr.units (by decide)) (pv 10) (pe_tup (pa_cons pe_str pa_nil)) (nomark _)) (pe_dget2 (hu_of hr) (pv 5) (pv 8) pe_int ⟨rfl, rfl, rfl, rfl⟩) (pv 11)) pa_nil)))))))))))
        (pss_one (ps_asg (pe_tup (pa_cons (pe_op op_add (pe_dget2 (hu_of hr) (pv 4) (pv 8) pe_int ⟨rfl, rfl, rfl, rfl⟩) pe_int) (pa_cons (pv 11) pa_nil))) (pg_tup rfl (pgs_cons (pg_sub (pv 4) (pv 8) (set_dict (hu_of hr)) (fun _ => rfl)) (pgs_cons (pg_sub (pv 5) (pv 8) (set_dict (hu_of hr)) (fun _ => rfl)) pgs_nil)))))))))
      (pss_one (ps_ret (pv 6))))), ?_⟩
    have hul : us.length = row.length := hus.length
    have hrl := hro.1
    obtain ⟨a, x, y, rfl, ha, hx, hy⟩ := ho_pair hv
    obtain ⟨ay, ys, rfl, hay, hys⟩ := ho_tup hy
    obtain ⟨b, x1, y1, rfl, hb, hx1, hy1⟩ := ho_pair hu
    obtain ⟨by_, ss, rfl, hby, hss⟩ := ho_tup hy1
    have hk3 := hk.scales
    refine ⟨_, rfl, a, _, 1, _, rfl, rfl, SqT.of ha, atI_nat (j := 1) rfl, ay, rfl, ⟨ys, SqT.of hay⟩, fun D hD => lc_row0 hD hay hys (by omega) (fun _ => rfl) (fun _ => rfl) fun H1 s1 h1' => ?_⟩
    obtain ⟨ns, e1, g1⟩ := h1'
    have g1' := g1.strs
    subst g1'
    have hnl : (names h.2.items).length = ss.length := by
      unfold names
      rw [List.length_map, hss.length, hw.sl]
    have hnd : (((names h.2.items).zip ss).map (·.1)).Nodup := by
      rw [zip_fst _ _ hnl]
      exact names_nodup hk.ns
    have ezip : ((names h.2.items).map V.str).zip ss = (nameKvs (fun v : V => v) ((names h.2.items).zip ss)).map fun kv => (kV kv.1, kv.2) := by
      rw [← zip_names (fun v : V => v), List.map_id']
    refine ⟨_, rfl, b, _, 1, _, rfl, rfl, SqT.of (s1 _ _ hb), atI_nat (j := 1) rfl, D, by_, _, _, nameKvs (fun v : V => v) ((names h.2.items).zip ss), rfl, SqL.of e1, SqT.of (s1 _ _ hby), ezip, fun d hd => ?_⟩
    rw [merge_names (fun v : V => v) hnd]
    generalize hkv : nameKvs (fun v : V => v) ((names h.2.items).zip ss) = kvs0
    have hval : ∀ x ∈ names h.2.items, ∃ (val : V) (st : Srt), valV kvs0 (.inr x) = some val ∧ Ho H val st ∧ SrtOk st := fun x hx => by
      obtain ⟨c, q1, q2⟩ := lookup_some x _ _ hnl hx
      obtain ⟨j, ej⟩ := List.mem_iff_getElem?.mp q2
      obtain ⟨st, es, hst⟩ := hss.back ej
      refine ⟨c, st, ?_, hst, hw.sb st (List.mem_of_getElem? es)⟩
      rw [← hkv, valV_names, q1]
      rfl
    have s2 := Same.trans s1 (Same.new (o := HO.dK kvs0) hd)
    have ed := upd_same (H := H1) (a := d) (o := .dK kvs0)
    generalize upd H1 d (.dK kvs0) = H2 at s2 ed
    -- counts, signs, found
    refine fun C nC => ?_
    refine fun S nS => ⟨small_le (by show 0 ≤ 1000000; decide), fun F nF => ⟨_, _, _, rfl, ?_⟩⟩
    have sC : Same H2 (upd H2 C (.dK [])) := Same.new nC
    have sS : Same (upd H2 C (.dK [])) (upd (upd H2 C (.dK [])) S (.dK [])) := Same.new nS
    have sF : Same (upd (upd H2 C (.dK [])) S (.dK [])) (upd (upd (upd H2 C (.dK [])) S (.dK [])) F (.lst [])) := Same.new nF
    have nCS : C ≠ S := fun z => by rw [← z, upd_same] at nS; cases nS
    have nCF : C ≠ F := fun z => by rw [← z, sS _ _ upd_same] at nF; cases nF
    have nSF : S ≠ F := fun z => by rw [← z, upd_same] at nF; cases nF
    have HS0 := sC.free nS
    have HF0 := (Same.trans sC sS).free nF
    have eC := sF _ _ (sS _ _ (upd_same (H := H2) (a := C) (o := .dK [])))
    have eS := sF _ _ (upd_same (H := upd H2 C (.dK [])) (a := S) (o := .dK []))
    have eF := upd_same (H := upd (upd H2 C (.dK [])) S (.dK [])) (a := F) (o := .lst [])
    have s3 := Same.trans sC (Same.trans sS sF)
    generalize upd (upd (upd H2 C (.dK [])) S (.dK [])) F (.lst []) = H3 at eC eS eF s3
    clear sC sS sF
    let Pv : Nat → L2.St → Hp → Prop := fun n σ H' => ∃ (y7 y8 y9 y10 y11 : Option V) (kc ks : List (L2.Key × V)) (ts : List Int), σ = [some (.ref a), some (.ref b), some (.ref p), some (.ref d), some (.ref C), some (.ref S), some (.ref F), y7, y8, y9, y10, y11, none] ∧ Same H2 H' ∧
      H' C = some (.dK kc) ∧ IntVals (fun _ => True) kc ∧ kc.length ≤ n ∧ H' S = some (.dK ks) ∧ IntVals (fun i => -1 ≤ i ∧ i ≤ 1) ks ∧ ks.length ≤ n ∧ H' F = some (.lst (ts.map V.int)) ∧ ts.length = n ∧ ∀ t ∈ ts, -1 ≤ t ∧ t ≤ 1
    refine ⟨_, rfl, p, rfl, ⟨us, SqL.of (s3 _ _ (s2 _ _ hp))⟩, for_it (walk_list (K := K) (a := p) (xs := us)) Pv
      ⟨none, none, none, none, none, [], [], [], rfl, s3, eC, (fun k v e => by cases e), Nat.le_refl _, eS, (fun k v e => by cases e), Nat.le_refl _, eF, rfl, fun _ z => (by cases z)⟩ (fun n σ H' _ ⟨_, _, _, _, _, _, _, _, _, s, _⟩ => SqL.of (s _ _ (s2 _ _ hp))) ?_ ?_⟩
    · rintro n v σ H4 H5 hn ⟨y7, y8, y9, y10, y11, kc, ks, ts, rfl, s4, eC4, ic, lc, eS4, is, ls, eF4, lt, ht⟩ ⟨rfl, hv'⟩
      have s24 := Same.trans s2 s4
      have hv2 : us[n]? = some v := hv'
      obtain ⟨g, eg, hg⟩ := (hus.up s24).back hv2
      have hgo := hro.2 g (List.mem_of_getElem? eg)
      obtain ⟨c, u0, u1, u2, rfl, hc, h0, h1, h2⟩ := ho_t3 hg
      have e0 := ho_str h0
      subst e0
      obtain ⟨val, st, ev, hst, hso⟩ := hval g.a hgo.scale
      obtain ⟨aj, kj, rfl, haj, rfl⟩ := ho_srt hst
      have obd := outw_bd hk hw hgo
      refine ⟨_, rfl, c, _, 0, _, rfl, rfl, SqT.of hc, atI_nat (j := 0) rfl, ?_⟩
      refine ⟨_, rfl, _, rfl, _, rfl, _, _, _, h, wd, g, rfl, hv.up s24, hu.up s24, hg, hk, hw, hgo, fun H6 s6 => ⟨_, _, rfl, ?_⟩⟩
      have s46 := Same.trans s4 s6
      refine ⟨_, rfl, _, rfl, d, .ref aj, rfl, ?_, ?_⟩
      · have qd := DGet.k (k := Sum.inr g.a) (s46 _ _ ed)
        rw [ev] at qd
        exact qd
      refine ⟨_, rfl, _, rfl, by omega, by omega, _, _, rfl, ?_⟩
      have sb := sgn_bd (outw h wd g)
      generalize hown : sgn (outw h wd g) = own at sb
      generalize hmore : outw h wd g = more at obd
      have eC6 := s6 _ _ eC4
      have eS6 := s6 _ _ eS4
      have eF6 := s6 _ _ eF4
      have haj6 := s46 _ _ (s2 _ _ haj)
      have fin : ∀ (H7 : Hp) (r : Int) (D : Ends), Same H6 H7 → -1 ≤ r → r ≤ 1 → D.nx = Pv (n + 1) → tAsg (tTup (tCons (tOp (rI0 fun i j => .int (i + j)) (tDGet2 (tVar 4) (tVar 8) (tC (.int 0))) (tC (.int 1))) (tCons (tVar 11) tNil))) (gTup K 2 (gCons (gSub (tVar 4) (tVar 8) rSetD) (gCons (gSub (tVar 5) (tVar 8) rSetD) gNil))) D
          [some (.ref a), some (.ref b), some (.ref p), some (.ref d), some (.ref C), some (.ref S), some (.ref F), some (.ref c), some (.str g.a), some (.int more), some (.ref aj), some (.int own), none] (upd H7 F (.lst (ts.map V.int ++ [.int r]))) := by
        intro H7 r D s7 r0 r1 eD
        have s67 := s7
        have eC7 := s67 _ _ eC6
        have eS7 := s67 _ _ eS6
        have eC8 : (upd H7 F (.lst (ts.map V.int ++ [.int r]))) C = some (.dK kc) := by rw [upd_ne nCF]; exact eC7
        have eS8 : (upd H7 F (.lst (ts.map V.int ++ [.int r]))) S = some (.dK ks) := by rw [upd_ne nSF]; exact eS7
        have eF8 : (upd H7 F (.lst (ts.map V.int ++ [.int r]))) F = some (.lst ((ts ++ [r]).map V.int)) := by rw [upd_same, List.map_append]; rfl
        have s8 : Same H2 (upd H7 F (.lst (ts.map V.int ++ [.int r]))) := Same.mut (Same.trans s46 s67) HF0
        generalize upd H7 F (.lst (ts.map V.int ++ [.int r])) = H8 at eC8 eS8 eF8 s8 ⊢
        obtain ⟨ci, eci, _⟩ := ic.get (Sum.inr g.a) trivial
        refine ⟨_, rfl, C, rfl, .inl ⟨kc, .inl eC8⟩, _, rfl, _, DGet.k (k := Sum.inr g.a) eC8, _, _, eci, rfl, ?_⟩
        refine ⟨_, rfl, small_le (by show 2 ≤ 1000000; decide), fun T nT => ?_⟩
        have sT : Same H8 (upd H8 T (.tup [.int (ci + 1), .int own])) := Same.new nT
        refine ⟨T, _, rfl, SqT.of upd_same, rfl, _, _, rfl, ?_⟩
        refine ⟨_, rfl, _, rfl, C, _, rfl, DPut.k (k := Sum.inr g.a) (sT _ _ eC8) (small_of (by omega)), _, _, rfl, ?_⟩
        refine ⟨_, rfl, _, rfl, S, _, rfl, DPut.k (k := Sum.inr g.a) (kvs := ks) (by rw [upd_ne (Ne.symm nCS)]; exact sT _ _ eS8) (small_of (by omega)), rfl, ?_⟩
        rw [eD]
        refine ⟨_, _, _, _, _, putK kc (Sum.inr g.a) (.int (ci + 1)), putK ks (Sum.inr g.a) (.int own), ts ++ [r], rfl, Same.mut (Same.mut (Same.trans s8 sT) nC) HS0, ?_, ic.put _ trivial, Nat.le_trans (length_putK _ _ _) (by omega), upd_same, is.put _ sb, Nat.le_trans (length_putK _ _ _) (by omega), ?_, by rw [List.length_append, List.length_singleton, lt], fun t hm => ?_⟩
        · rw [upd_ne nCS]
          exact upd_same
        · rw [upd_ne (Ne.symm nSF), upd_ne (Ne.symm nCF)]
          exact sT _ _ eF8
        · rcases List.mem_append.mp hm with z | z
          · exact ht t z
          · have ez : t = r := by simpa using z
            omega
      have lF : (ts.map V.int).length < sizeLine := small_of (by rw [List.length_map]; omega)
      have sq0 : (st.key.map kV)[0]? = some (V.str st.name) := key_at0 _
      refine ⟨_, rfl, small_le (by show 1 ≤ 1000000; decide), fun t1 nt1 => ?_⟩
      have s7 : Same H6 (upd H6 t1 (.tup [.str "lies"])) := Same.new nt1
      have g7 : Ho (upd H6 t1 (.tup [.str "lies"])) (.ref t1) (⟨"lies", none⟩ : Srt) := Ho.srt upd_same
      generalize upd H6 t1 (.tup [.str "lies"]) = H7 at s7 g7 ⊢
      have haj7 := s7 _ _ haj6
      have eF7 := s7 _ _ eF6
      have gst : Ho H7 (.ref aj) st := Ho.srt haj7
      refine ⟨st, ⟨"lies", none⟩, gst.dp, g7.dp, _, rfl, ite2 (fun _ => ?_) (fun _ => ?_)⟩
      · exact ⟨_, rfl, .inl ⟨rfl, _, SqL.of eF7⟩, _, rfl, _, _, rfl, rfl, F, _, _, rfl, rfl, eF7, lF, fin H7 _ _ s7 (by omega) (by omega) rfl⟩
      refine ⟨_, rfl, aj, _, 0, _, rfl, rfl, SqT.of haj7, atI_nat sq0, rfl, _, rfl, ite2 (fun e => ?_) (fun n2 => ?_)⟩
      · obtain ⟨k, ek, hk1⟩ := hso.num (.inl (str_of e))
        refine ⟨_, rfl, .inl ⟨rfl, _, SqL.of eF7⟩, _, rfl, _, rfl, aj, _, 1, _, rfl, rfl, SqT.of haj7, atI_nat (j := 1) (key_at1 ek), _, _, rfl, rfl, more + k, rfl, by omega, by omega, F, _, _, rfl, rfl, eF7, lF, ?_⟩
        have := sgn_bd (more + k)
        exact fin H7 _ _ s7 (by omega) (by omega) rfl
      refine ⟨_, rfl, aj, _, 0, _, rfl, rfl, SqT.of haj7, atI_nat sq0, rfl, _, rfl, ite2 (fun e => ?_) (fun n3 => ?_)⟩
      · obtain ⟨k, ek, hk1⟩ := hso.num (.inr (.inl (str_of e)))
        refine ⟨_, rfl, .inl ⟨rfl, _, SqL.of eF7⟩, _, rfl, _, rfl, _, rfl, _, rfl, aj, _, 1, _, rfl, rfl, SqT.of haj7, atI_nat (j := 1) (key_at1 ek), _, _, rfl, rfl, .inr ⟨_, rfl, _, _, rfl, rfl, .inl ⟨by omega, by omega⟩, F, _, _, rfl, rfl, eF7, lF, ?_⟩⟩
        exact fin H7 _ _ s7 (mul_ite sb).1 (mul_ite sb).2 rfl
      refine ⟨_, rfl, aj, _, 0, _, rfl, rfl, SqT.of haj7, atI_nat sq0, rfl, _, rfl, ite2 (fun e => ?_) (fun n4 => ?_)⟩
      · obtain ⟨k, ek, hk1⟩ := hso.num (.inr (.inr (str_of e)))
        obtain ⟨ci, eci, _⟩ := ic.get (Sum.inr g.a) trivial
        refine ⟨_, rfl, .inl ⟨rfl, _, SqL.of eF7⟩, _, rfl, _, rfl, C, rfl, .inl ⟨kc, .inl (s7 _ _ eC6)⟩, _, rfl, _, DGet.k (k := Sum.inr g.a) (s7 _ _ eC6), _, rfl, aj, _, 1, _, rfl, rfl, SqT.of haj7, atI_nat (j := 1) (key_at1 ek), _, _, eci, rfl, _, _, rfl, rfl, (by show (0 : Int) < 2; decide), _, _, rfl, rfl, .inl ⟨by decide, by decide⟩, _, _, rfl, rfl, _, _, rfl, rfl, .inl ⟨by omega, by omega⟩, F, _, _, rfl, rfl, eF7, lF, ?_⟩
        have m0 : (ci + k) % 2 = 0 ∨ (ci + k) % 2 = 1 := by omega
        refine fin H7 (own * (1 - 2 * ((ci + k) % 2))) _ s7 ?_ ?_ rfl
        · rcases m0 with z | z <;> rw [z] <;> omega
        · rcases m0 with z | z <;> rw [z] <;> omega
      · refine ⟨_, rfl, .inl ⟨rfl, _, SqL.of eF7⟩, _, rfl, small_le (by show 1 ≤ 1000000; decide), fun t2 nt2 => ?_⟩
        have s8 : Same H7 (upd H7 t2 (.tup [.str "echo"])) := Same.new nt2
        have g8 : Ho (upd H7 t2 (.tup [.str "echo"])) (.ref t2) (⟨"echo", none⟩ : Srt) := Ho.srt upd_same
        generalize upd H7 t2 (.tup [.str "echo"]) = H8 at s8 g8 ⊢
        have s68 := Same.trans s7 s8
        have eF8 := s8 _ _ eF7
        refine ⟨st, ⟨"echo", none⟩, (gst.up s8).dp, g8.dp, _, rfl, ite2 (fun _ => ?_) (fun _ => ?_)⟩
        · obtain ⟨si, esi, hsi⟩ := is.get (Sum.inr g.a) (by omega)
          refine ⟨_, rfl, S, rfl, .inl ⟨ks, .inl (s68 _ _ eS6)⟩, _, rfl, _, DGet.k (k := Sum.inr g.a) (s68 _ _ eS6), F, _, _, rfl, rfl, eF8, lF, ?_⟩
          rw [esi]
          exact fin H8 si _ s68 hsi.1 hsi.2 rfl
        · exact ⟨_, rfl, F, _, _, rfl, rfl, eF8, lF, fin H8 own _ s68 sb.1 sb.2 rfl⟩
    · rintro σ H4 ⟨y7, y8, y9, y10, y11, kc, ks, ts, rfl, s4, eC4, ic, lc, eS4, is, ls, eF4, lt, ht⟩
      exact ⟨_, rfl, q F H4 ts (Same.trans s2 s4) (s2.free HF0) ⟨_, eF4, HoA.ofInts ts⟩ (by omega) ht⟩
end
end Sly

set_option Elab.async false
set_option linter.all false
set_option maxRecDepth 100000
set_option maxHeartbeats 4000000
/-! Walks: _law_more, _law_seen. -/
namespace Sly
open PySem PySem.Spec PyProof.Rows L2
open PySem.W (Datum DatumOrd Tup T3)
open RZ (ItzT pi_zipA)
theorem HoA.set {α : Type} [DecidableEq α] [Datum α] {H : Hp} : ∀ {vs : List V} {xs : List α} {v : V} {x : α} (j : Nat), HoA H vs xs → Ho H v x → HoA H (vs.set j v) (xs.set j x)
  | vs, [], v, x, j, h, g => by
    rw [hoA_nil h]
    cases j <;> exact HoA.nil
  | vs, y :: r, v, x, j, h, g => by
    obtain ⟨u, ws, rfl, h1, h2⟩ := hoA_cons h
    cases j with
    | zero => exact HoA.cons g h2
    | succ j => exact HoA.cons h1 (HoA.set j h2 g)
theorem ixN_of {n j : Nat} (hj : j < n) : ixN n (j : Int) = some j := by
  unfold ixN
  rw [if_pos (by omega), if_pos (by omega)]
  simp
theorem hoP_noInt {H : Hp} {vs : List V} {xs : List Told} (h : HoA H vs xs) : ∀ ds : List Int, 0 < ds.length → vs ≠ ds.map V.int := hoA_noInt h
theorem worlds_pos {h : Hse} (hk : HseOk h) : 0 < (worldsOf h).length := by
  have h1 := allRows_pos (h.1.items.map (·.2.items)) fun p hp => by
    obtain ⟨t, ht, rfl⟩ := List.mem_map.mp hp
    exact (hk.wts t ht).1
  have h2 := allRows_pos (h.2.items.map (·.2.items)) fun p hp => by
    obtain ⟨t, ht, rfl⟩ := List.mem_map.mp hp
    exact (hk.srt t ht).1
  obtain ⟨a, ha⟩ := List.exists_mem_of_length_pos h1
  obtain ⟨b, hb⟩ := List.exists_mem_of_length_pos h2
  refine List.length_pos_of_mem (a := (Tup.mk a, Tup.mk b)) ?_
  unfold worldsOf
  exact List.mem_flatMap.mpr ⟨_, List.mem_map_of_mem ha, List.mem_map.mpr ⟨_, List.mem_map_of_mem hb, rfl⟩⟩
section
variable {P : Program} {w : PySem.World} {K : PySem.W.Frag} {mg : Str → Option Value} {base : Heap}
theorem ok_lmore {f : Addr} {fd : FuncData} {k : Nat} (F : Fun K "_law_more" "_law_more" sLawMore f fd) (B : Blt mg) : FnOk P w K mg base CX0 (k + 1) f fd ["house", "world", "weighing"] spOut := by
  refine F.ok scLawMore (fun vs H Q E h => ?_) (fun cdv A outer s H vs Q E hr h => ?_)
  · obtain ⟨v, u, t, h, wd, g, rfl, _⟩ := h
    rfl
  · obtain ⟨v, u, t, h, wd, g, rfl, hv, hu, ht, hk, hw, hg, q⟩ := h
    have nd := scLawMore.nd
    obtain ⟨a, x, y, rfl, ha, hx, hy⟩ := ho_pair hv
    obtain ⟨ax, xs, rfl, hax, hxs⟩ := ho_tup hx
    obtain ⟨b, x1, y1, rfl, hb, hx1, hy1⟩ := ho_pair hu
    obtain ⟨bx, ws, rfl, hbx, hws⟩ := ho_tup hx1
    obtain ⟨c, u0, u1, u2, rfl, hc, h0, h1, h2⟩ := ho_t3 ht
    obtain ⟨c1, ls, rfl, hc1, hls⟩ := ho_tup h1
    obtain ⟨c2, rs, rfl, hc2, hrs⟩ := ho_tup h2
    refine ⟨_, pss_cons (ps_set (i := 3) nd rfl (.inr rfl) (pe_dictZip rfl (by rfl) B.dict (by rfl) B.zip (pa_cons (pe_lc (own := [("row", 4)]) (g := gName 4) (tt := tYes) (te := tOp (rIxT K) (tVar 4) (tC (.int 0))) rfl nd (pi_tup (pe_ix ix_tup (pv 0) pe_int (fun _ _ => rfl)))
        (blkOk_by (N := nLawMore) (sc := defScope sLawMore) (by decide +kernel)) (fun _ _ _ _ _ => pg_name (i := 4) nd rfl (.inl rfl)) (fun _ _ _ _ _ => pts_nil) (fun _ _ _ _ _ => pe_ix ix_tup (pv 4) pe_int (fun _ _ => rfl))) (pa_cons (pe_ix ix_tup (pv 1) pe_int (fun _ _ => rfl)) pa_nil))))
      (pss_one (ps_ret (pe_op op_sub
        (pe_callB (cr_sum rfl) (by rfl) B.sum b_sum (pa_cons (pe_lc (own := [("one", 5)]) (g := gName 5) (tt := tYes) (te := tDGet (tVar 3) (tVar 5)) rfl nd (pi_tup (pe_ix ix_tup (pv 2) pe_int (fun _ _ => rfl)))
          (blkOk_by (N := nLawMore) (sc := defScope sLawMore) (by decide +kernel)) (fun _ _ _ _ _ => pg_name (i := 5) nd rfl (.inl rfl)) (fun _ _ _ _ _ => pts_nil) (fun _ _ _ _ _ => pe_dget (hu_of hr) (pv 3) (pv 5) (fun _ _ => rfl))) pa_nil))
        (pe_callB (cr_sum rfl) (by rfl) B.sum b_sum (pa_cons (pe_lc (own := [("one", 5)]) (g := gName 5) (tt := tYes) (te := tDGet (tVar 3) (tVar 5)) rfl nd (pi_tup (pe_ix ix_tup (pv 2) pe_int (fun _ _ => rfl)))
          (blkOk_by (N := nLawMore) (sc := defScope sLawMore) (by decide +kernel)) (fun _ _ _ _ _ => pg_name (i := 5) nd rfl (.inl rfl)) (fun _ _ _ _ _ => pts_nil) (fun _ _ _ _ _ => pe_dget (hu_of hr) (pv 3) (pv 5) (fun _ _ => rfl))) pa_nil))))), ?_⟩
    refine ⟨_, rfl, a, _, 0, _, rfl, rfl, SqT.of ha, atI_nat (j := 0) rfl, ax, rfl, ⟨xs, SqT.of hax⟩, fun D hD => lc_row0 hD hax hxs (by have := hk.things; omega) (fun _ => rfl) (fun _ => rfl) fun H1 s1 h1' => ?_⟩
    obtain ⟨ns, e1, g1⟩ := h1'
    have g1' := g1.strs
    subst g1'
    have hwi := hws.ints
    subst hwi
    have hnl : (names h.1.items).length = wd.1.items.length := by
      unfold names
      rw [List.length_map, hw.wl]
    have hnd : (((names h.1.items).zip wd.1.items).map (·.1)).Nodup := by
      rw [zip_fst _ _ hnl]
      exact names_nodup hk.nt
    refine ⟨_, rfl, b, _, 0, _, rfl, rfl, SqT.of (s1 _ _ hb), atI_nat (j := 0) rfl, D, bx, _, _, nameKvs V.int ((names h.1.items).zip wd.1.items), rfl, SqL.of e1, SqT.of (s1 _ _ hbx), zip_names V.int (names h.1.items) wd.1.items, fun d hd => ?_⟩
    rw [merge_names V.int hnd]
    have s2 := Same.trans s1 (Same.new (o := HO.dK (nameKvs V.int ((names h.1.items).zip wd.1.items))) hd)
    have hval : ∀ x ∈ names h.1.items, valV (nameKvs V.int ((names h.1.items).zip wd.1.items)) (.inr x) = some (.int (lookI (names h.1.items) wd.1.items x)) := fun x hx => by
      obtain ⟨c, q1, q2⟩ := lookup_some x _ _ hnl hx
      rw [valV_names]
      unfold lookI
      rw [q1]
      rfl
    have hl : ∀ l : List Str, l.Sublist (names h.1.items) → l.length ≤ 1000 := fun l sl => by
      have e := sl.length_le
      unfold names at e
      rw [List.length_map] at e
      have := hk.things
      omega
    refine ⟨_, rfl, c, _, 1, _, rfl, rfl, SqT.of (s2 _ _ hc), atI_nat (j := 1) rfl, c1, rfl, ⟨ls, SqT.of (s2 _ _ hc1)⟩, fun D1 hD1 => lc_dget hD1 (s2 _ _ hc1) (hls.up s2) (hl _ hg.left) upd_same (fun x hx => hval x (hg.left.subset hx)) (fun _ => rfl) (fun _ => rfl) (fun _ => rfl) fun H3 s3 h3 => ?_⟩
    obtain ⟨v3, e3, g3⟩ := h3
    have s23 := Same.trans s2 s3
    refine ⟨D1, _, rfl, SqL.of (by rw [e3, g3.ints]), ?_⟩
    refine ⟨_, rfl, c, _, 2, _, rfl, rfl, SqT.of (s23 _ _ hc), atI_nat (j := 2) rfl, c2, rfl, ⟨rs, SqT.of (s23 _ _ hc2)⟩, fun D2 hD2 => lc_dget hD2 (s23 _ _ hc2) (hrs.up s23) (hl _ hg.right) (s3 _ _ upd_same) (fun x hx => hval x (hg.right.subset hx)) (fun _ => rfl) (fun _ => rfl) (fun _ => rfl) fun H4 s4 h4 => ?_⟩
    obtain ⟨v4, e4, g4⟩ := h4
    refine ⟨D2, _, rfl, SqL.of (by rw [e4, g4.ints]), _, _, rfl, rfl, ?_⟩
    exact q _ (Same.trans s23 s4)
def spLSeen : Sp := fun vs H Q _ => ∃ (b : Addr) (u : V) (h : Hse), vs = [.ref b, u, .int 10] ∧ BagAt H b ∧ Ho H u h ∧ HseOk h ∧ ∀ q H' (seen : List Told), Keep b H H' → BagAt H' b → H q = none → Ls H' q seen → SeenOk h seen → Q (.ref q) H'
theorem ok_lseen {f fT fR fW fL : Addr} {fd fdT fdR fdW fdL : FuncData} (F : Fun K "_law_seen" "_law_seen" sLawSeen f fd) (B : Blt mg)
    (GT : FnOk P w K mg base CX0 1 fT fdT ["bag", "many"] spTake) (kT : PySem.W.keepIn K (.ref fT) = true) (bT : Binds K fdT ["bag", "many"] []) (gT : mg "_law_take" = some (.ref fT))
    (GR : FnOk P w K mg base CX0 3 fR fdR ["bag", "house", "limit"] spRow) (kR : PySem.W.keepIn K (.ref fR) = true) (bR : Binds K fdR ["bag", "house", "limit"] []) (gR : mg "_law_row" = some (.ref fR))
    (GW : FnOk P w K mg base CX0 2 fW fdW ["house"] spWorlds) (kW : PySem.W.keepIn K (.ref fW) = true) (bW : Binds K fdW ["house"] []) (gW : mg "_law_worlds" = some (.ref fW))
    (GL : FnOk P w K mg base CX0 2 fL fdL ["house", "world", "row"] spLTells) (kL : PySem.W.keepIn K (.ref fL) = true) (bL : Binds K fdL ["house", "world", "row"] []) (gL : mg "_law_tells" = some (.ref fL)) :
    FnOk P w K mg base CX0 4 f fd ["bag", "house", "limit"] spLSeen := by
  refine F.ok scLawSeen (fun vs H Q E h => ?_) (fun cdv A outer s H vs Q E hr h => ?_)
  · obtain ⟨b, u, h, rfl, _⟩ := h
    rfl
  · obtain ⟨b, u, h, rfl, hb, hu, hk, q⟩ := h
    have nd := scLawSeen.nd
    refine ⟨_, pss_cons (ps_par (i := 3) (j := 4) rfl nd rfl rfl (by decide) rfl rfl (pa_cons (pe_call GR hr (by rfl) gR kR bR .nil pass0 (pa_cons (pv 0) (pa_cons (pv 1) (pa_cons (pv 2) pa_nil)))) (pa_cons (pe_call GW (hr.mono (by decide)) (by rfl) gW kW bW .nil pass0 (pa_cons (pv 1) pa_nil)) pa_nil)) rfl)
      (pss_cons (ps_set (i := 5) nd rfl (.inl rfl) (pe_ix ix_list (pv 4) (pe_call GT (hr.mono (by decide)) (by rfl) gT kT bT .nil pass0 (pa_cons (pv 0) (pa_cons (pe_callB call_len_seq (by rfl) B.len b_len (pa_cons (pv 4) pa_nil)) pa_nil))) (fun _ _ => rfl)))
      (pss_cons (ps_setLc (i := 6) (own := [("weighing", 8), ("told", 9)]) (g := gTup K 2 (gCons (gName 8) (gCons (gName 9) gNil))) (tt := tYes) (te := tTup (tCons (tVar 8) (tCons (tVar 9) tNil))) rfl nd rfl rfl (sw_true rfl rfl rfl (by decide +kernel)) (pi_zipA (by rfl) B.zip (pa_cons (pv 3) (pa_cons (pe_call GL (hr.mono (by decide)) (by rfl) gL kL bL .nil pass0 (pa_cons (pv 1) (pa_cons (pv 5) (pa_cons (pv 3) pa_nil)))) pa_nil)))
        (blkOk_by (N := nLawSeen) (sc := defScope sLawSeen) (by decide +kernel)) (fun _ _ _ _ _ => pg_tup rfl (pgs_cons (pg_name (i := 8) nd rfl (.inl rfl)) (pgs_cons (pg_name (i := 9) nd rfl (.inl rfl)) pgs_nil))) (fun _ _ _ _ _ => pts_nil) (fun _ _ _ _ _ => pe_tup (pa_cons (pv 8) (pa_cons (pv 9) pa_nil))))
      (pss_cons (ps_if (PW.pt (pw_and (pt_cmpR (op_neT (α := List Told) hr.units (by decide)) (pv 6) (pe_lst pa_nil) (nomark _)) (pw_and1 (pt_cmpR op_eq (pe_call GT (hr.mono (by decide)) (by rfl) gT kT bT .nil pass0 (pa_cons (pv 0) (pa_cons pe_int pa_nil))) pe_int (nomark _)))))
        (pss_cons (ps_set (i := 7) nd rfl (.inl rfl) (pe_call GT (hr.mono (by decide)) (by rfl) gT kT bT .nil pass0 (pa_cons (pv 0) (pa_cons (pe_callB call_len_seq (by rfl) B.len b_len (pa_cons (pv 6) pa_nil)) pa_nil))))
        (pss_one (ps_asg (pe_tup (pa_cons (pe_ix ix_tup (pe_ix ix_list (pv 6) (pv 7) (fun _ _ => rfl)) pe_int (fun _ _ => rfl)) (pa_cons (pe_op op_sub (pe_call GT (hr.mono (by decide)) (by rfl) gT kT bT .nil pass0 (pa_cons (pv 0) (pa_cons pe_int pa_nil))) pe_int) pa_nil))) (pg_sub (pv 6) (pv 7) set_list (fun _ => rfl))))) pss_nil)
      (pss_one (ps_ret (pv 6)))))), ?_⟩
    refine ⟨_, rfl, _, rfl, _, rfl, b, u, h, 10, rfl, hb, hu, hk, by decide, by decide, fun q1 H1 row k1 hb1 n1 hr1 hl1 hok1 => ?_⟩
    have q1b : q1 ≠ b := hb.fresh n1
    refine ⟨_, rfl, u, h, rfl, hu.mono (k1.t hb), hk, fun q2 H2 s2 n2 h2 => ⟨_, _, rfl, ?_⟩⟩
    have hb2 := hb1.up s2
    have k2 := k1.trans (Keep.of s2)
    have q2b := hb1.fresh n2
    obtain ⟨ws, e2, g2⟩ := h2
    have hwl : ws.length = (worldsOf h).length := g2.length
    have hwp := worlds_pos hk
    have hwle := worlds_len hk
    have hl10 : row.length ≤ 10 := hl1
    refine ⟨_, rfl, _, rfl, _, rfl, q2, ws, rfl, .inl (SqL.of e2), b, _, rfl, hb2, by omega, fun r H3 a1 b1 k3 hb3 => ?_⟩
    obtain ⟨j, rfl⟩ := Int.eq_ofNat_of_zero_le a1
    have jl : j < (worldsOf h).length := by omega
    have ej : (worldsOf h)[j]? = some (worldsOf h)[j] := List.getElem?_eq_getElem jl
    obtain ⟨v, ev, hv⟩ := (g2.keep k3 hb2).at ej
    refine ⟨q2, ws, (j : Int), v, rfl, rfl, SqL.of (k3 _ _ q2b e2), atI_nat ev, ?_⟩
    have hwd := world_ok hk (List.getElem_mem jl)
    obtain ⟨us, e3, g3⟩ := (hr1.up s2).keep k3 hb2 q1b
    have k23 := k2.trans k3
    refine ⟨_, rfl, _, rfl, _, rfl, _, rfl, u, v, q1, h, _, row, rfl, hu.mono (k23.t hb), hv, ⟨us, e3, g3⟩, hk, hwd, ⟨by omega, hok1⟩, fun q4 H4 ts s4 n4 h4 lt ht => ?_⟩
    obtain ⟨tv, e4, g4⟩ := h4
    have g4i := g4.ints
    subst g4i
    have hul : us.length = row.length := g3.length
    have k24 := k23.trans (Keep.of s4)
    have hb4 := hb3.up s4
    refine ⟨q1, q4, us, _, rfl, .inl ⟨SqL.of (s4 _ _ e3), SqL.of e4, fun D hD => ?_⟩⟩
    have nDb := hb4.fresh hD
    have HD0 := k24.free nDb hD
    refine lc_data (walk_zip (n := row.length) (by rw [hul, List.length_map, lt]; omega)) hD (fun i => row[i]?.bind fun g => ts[i]?.map fun t => (g, t)) (by omega) (fun H s => ⟨SqL.of (s _ _ (s4 _ _ e3)), SqL.of (s _ _ e4)⟩) ?_ ?_
    · rintro i x H5 H6 P1 P0 hi s5 ⟨T, x1, x2, rfl, nT, rfl, f1, f2⟩ hP _
      have f1' : us[i]? = some x1 := f1
      have f2' : (ts.map V.int)[i]? = some x2 := f2
      obtain ⟨g, eg, hg⟩ := ((g3.up s4).up s5).back f1'
      rw [List.getElem?_map] at f2'
      cases et : ts[i]? with
      | none => rw [et] at f2'; cases f2'
      | some t =>
        rw [et] at f2'
        cases f2'
        have s6 : Same H5 (upd H5 T (.tup [x1, .int t])) := Same.new nT
        refine ⟨T, _, rfl, SqT.of upd_same, rfl, _, _, rfl, _, _, rfl, rfl, rfl, yes ?_⟩
        refine ⟨_, rfl, _, rfl, small_le (by show 2 ≤ 1000000; decide), fun T2 nT2 => ?_⟩
        refine hP _ _ (g, t) (Same.trans s6 (Same.new nT2)) ?_ (Ho.newPair nT2 (hg.up s6) (Ho.int t))
        show row[i]?.bind _ = _
        rw [eg]
        show (ts[i]?.map fun t => (g, t)) = _
        rw [et]
        rfl
    intro H5 s5 h5
    have hseen : SeenOk h ((List.range row.length).filterMap fun i => row[i]?.bind fun g => ts[i]?.map fun t => (g, t)) := by
      refine ⟨Nat.le_trans (List.length_filterMap_le _ _) (by rw [List.length_range]; omega), fun p hp => ?_⟩
      obtain ⟨i, _, e⟩ := List.mem_filterMap.mp hp
      cases eg : row[i]? with
      | none => rw [eg] at e; cases e
      | some g =>
        rw [eg] at e
        cases et : ts[i]? with
        | none =>
          have e' : (ts[i]?.map fun t => (g, t)) = some p := e
          rw [et] at e'
          cases e'
        | some t =>
          have e' : (ts[i]?.map fun t => (g, t)) = some p := e
          rw [et] at e'
          cases e'
          exact ⟨hok1 g (List.mem_of_getElem? eg), ht t (List.mem_of_getElem? et)⟩
    generalize ((List.range row.length).filterMap fun i => row[i]?.bind fun g => ts[i]?.map fun t => (g, t)) = seen at h5 hseen
    have hb5 := hb4.up s5
    have k25 := k24.trans (Keep.of s5)
    refine ⟨_, rfl, small_le (by show 0 ≤ 1000000; decide), fun l nl => ?_⟩
    have s6 : Same H5 (upd H5 l (.lst [])) := Same.new nl
    have h6 := h5.up s6
    have hb6 := hb5.up s6
    have k26 := k25.trans (Keep.of s6)
    have gl : Ls (upd H5 l (.lst [])) l ([] : List Told) := Ls.new nl HoA.nil
    generalize upd H5 l (.lst []) = H6 at h6 hb6 k26 gl s6 ⊢
    refine ⟨seen, [], h6.dp, gl.dp, _, rfl, ite2 (fun e => ?_) (fun e => ?_)⟩
    · have hne : seen ≠ [] := of_decide_eq_true e
      have hsp : 0 < seen.length := List.length_pos_iff.mpr hne
      have hsl := hseen.1
      refine ⟨_, rfl, b, 3, rfl, hb6, by decide, fun r1 H7 c1 d1 k7 hb7 => ⟨rfl, _, rfl, ite2 (fun _ => ?_) (fun _ => ?_)⟩⟩
      · have h7 := h6.keep k7 hb6 nDb
        obtain ⟨vs7, e7, g7⟩ := id h7
        have l7 : vs7.length = seen.length := g7.length
        refine ⟨_, rfl, _, rfl, D, vs7, rfl, .inl (SqL.of e7), b, _, rfl, hb7, by omega, fun r2 H8 c2 d2 k8 hb8 => ?_⟩
        obtain ⟨m, rfl⟩ := Int.eq_ofNat_of_zero_le c2
        obtain ⟨vs8, e8, g8⟩ := h7.keep k8 hb7 nDb
        have l8 : vs8.length = seen.length := g8.length
        have ml : m < seen.length := by omega
        have em : seen[m]? = some seen[m] := List.getElem?_eq_getElem ml
        obtain ⟨vm, evm, hvm⟩ := g8.at em
        obtain ⟨tm, z1, z2, rfl, htm, hz1, hz2⟩ := ho_pair hvm
        have k28 := (k26.trans k7).trans k8
        refine ⟨_, rfl, _, rfl, D, vs8, (m : Int), _, rfl, rfl, SqL.of e8, atI_nat evm, tm, _, 0, _, rfl, rfl, SqT.of htm, atI_nat (j := 0) rfl, _, rfl, b, 3, rfl, hb8, by decide, fun r3 H9 c3 d3 k9 hb9 => ?_⟩
        have e9 := k9 _ _ nDb e8
        have g9 := g8.keep k9 hb8
        refine ⟨_, _, rfl, rfl, small_le (by show 2 ≤ 1000000; decide), fun T nT => ?_⟩
        have sT : Same H9 (upd H9 T (.tup [z1, .int (r3 - 1)])) := Same.new nT
        have gT : Ho (upd H9 T (.tup [z1, .int (r3 - 1)])) (.ref T) ((seen[m].1, r3 - 1) : Told) := Ho.newPair nT (hz1.keep k9 hb8) (Ho.int _)
        have e10 := sT _ _ e9
        have g10 := g9.up sT
        have hb10 := hb9.up sT
        have k210 := (k28.trans k9).trans (Keep.of sT)
        generalize upd H9 T (.tup [z1, .int (r3 - 1)]) = HT at gT e10 g10 hb10 k210 ⊢
        refine ⟨_, rfl, _, rfl, D, vs8, (m : Int), m, rfl, rfl, e10, ixN_of (by omega), _, rfl, ?_⟩
        refine q D _ (seen.set m (seen[m].1, r3 - 1)) (k210.mut HD0) (hb10.putL nDb e10 (hoP_noInt g10)) HD0 ⟨_, upd_same, (HoA.set m g10 gT).mono (TSame.putL e10)⟩ ⟨by rw [List.length_set]; exact hsl, fun p hp => ?_⟩
        rcases List.mem_or_eq_of_mem_set hp with z | z
        · exact hseen.2 p z
        · subst z
          exact ⟨(hseen.2 seen[m] (List.getElem_mem ml)).1, by show -1 ≤ r3 - 1; omega, by show r3 - 1 ≤ 1; omega⟩
      · exact ⟨_, rfl, q D H7 seen (k26.trans k7) hb7 HD0 (h6.keep k7 hb6 nDb) hseen⟩
    · exact ⟨_, rfl, q D H6 seen k26 hb6 HD0 h6 hseen⟩
end
end Sly

set_option Elab.async false
set_option linter.all false
set_option maxRecDepth 100000
set_option maxHeartbeats 4000000
/-! sorted(list, key=lambda pair: pair[0][0]). -/
namespace Sly
open PySem PySem.Spec PyProof.Rows L2 LamX
open PySem.W (Datum DatumOrd Tup T3 Holds HoldAll EachIs dataLe dataLt AllAlike Sortable TotalLe KeyPure)
theorem b_sorted' : bootBuiltins "sorted" = some (.builtin "sorted") := by decide +kernel
/-- x[0][0] -/
abbrev ixx (x : Str) (j1 j2 : Nat) (p1 p2 p3 p4 p5 : Pos) : Expr := .Subscript (.Subscript (.Name x p1) (.Constant (.int 0) j1 p2) p3) (.Constant (.int 0) j2 p4) p5
section
variable {prog : Program} {w : PySem.World} {A : Around} {s : Shared}
theorem lam_turn {f c' a1 a2 : Addr} {q x z : Str} {params : Arguments} {scope : Scope} {pm ctv u1 u2 u3 : Value} {t : Tok} {j1 j2 : Nat} {p1 p2 p3 p4 p5 : Pos} (hf : s.heap.get? f = some (PySem.W.kla_obj "<lambda>" q params (ixx x j1 j2 p1 p2 p3 p4 p5) scope [] pm c' ctv)) (hco : s.heap.CodeRec (.ref c') q)
    (hbind : bindArgs (PySem.W.kla_fn "<lambda>" q params (ixx x j1 j2 p1 p2 p3 p4 p5) scope [] pm (.ref c') ctv) ⟨[.ref a1], []⟩ = pure [(x, .ref a1)]) (hk : scope.kind = .function) (hc : scope.isCoroutine = false) (hg : scope.isGenerator = false) (hcell : ∀ y ∈ scope.names, y.2 ≠ .cell) (hx : scope.names.lookup x = some .local)
    (h1 : s.heap.IsTuple a1 #[.ref a2, u1]) (h2 : s.heap.IsTuple a2 #[.str z t, u2, u3]) (hroom : A.depth < recursionLimit) (hlim : s.heap.NoLimit) (hd : (x == ("__debug__" : Str)) = false) :
    wpAny (model prog w) A (call (.ref f) [.ref a1]) (KeyPure (.str z) s) (fun _ _ => False) s := by
  have rc : codeAny (model prog w) A (.call (.ref f) ⟨[.ref a1], []⟩) (fun r s' => ∃ v, r = .ok (.ret v) ∧ KeyPure (.str z) s v s') s := by
    refine PySem.W.kla_callFunE hroom hf rfl hc hg rfl hco ?_
    rw [hbind]
    refine wpAny_pure (wpAny_newFunctionEnv hcell (fun y hy => ?_) (fun h₁ hns hsb => ⟨hlim.fresh _ hsb, ?_⟩) hk)
    · have e : y = (x, Value.ref a1) := by simpa using hy
      rw [e]
      exact hx
    · have kp : ∀ b o, s.heap.get? b = some o → h₁.get? b = some o := fun b o e => hsb.extBut b o (Nat.ne_of_lt (Heap.lt_size e)) (Heap.get?_push_of_some _ e)
      refine PySem.W.kla_codeExpr ?_
      have ht1 : h₁.IsTuple a1 #[.ref a2, u1] := h1.at fun o e => kp _ o e
      have ht2 : h₁.IsTuple a2 #[.str z t, u2, u3] := h2.at fun o e => kp _ o e
      refine PyProof.Rows.Subscript_ (PyProof.Rows.Subscript_ ?_)
      refine wpAny_Name (wpAny_loadName_local (v := .ref a1) hk hx hns ?_ ?_) hd
      · show List.lookup x [(x, Value.ref a1)].reverse = _
        simp
      refine wpAny_Constant_int ?_
      refine subscriptTail_builtinR (T := "tuple") ht1.typeIs slot_tuple_getitem.lookup (getItem_tuple (j := 0) ht1 (by decide) (by decide) rfl rfl ⟨rfl, ?_⟩)
      refine wpAny_Constant_int ?_
      refine subscriptTail_builtinR (T := "tuple") (s := { s with heap := h₁, toks := _ }) ht2.typeIs slot_tuple_getitem.lookup (getItem_tuple (j := 0) ht2 (by decide) (by decide) rfl rfl ⟨rfl, ?_⟩)
      exact ⟨_, rfl, h₁, _, rfl, kp, .str z t⟩
  refine wpAny_call (codeAny_mono rc fun r s' hq => ?_)
  obtain ⟨v, rfl, hq⟩ := hq
  exact hq
end
/-- sorted(seen, key=lambda pair: pair[0][0]) -/
def tSortLam (T : List (Addr × Str)) (tA : TA) : TE := fun σ H Q => tA σ H fun vs H1 => Tabs T H1 ∧ ∃ (a : Addr) (seen : List Told), vs = [.ref a] ∧ Ls H1 a seen ∧ seen.length ≤ 1000 ∧
  ∀ q H3, ExtN H1 H3 → Tabs T H3 → Ls H3 q (seen.mergeSort (dataLe false fun p : Told => .str p.1.a)) → Q (.ref q) H3
theorem ExtN.t {H H' : Hp} (e : ExtN H H') : TSame H H' := fun a xs h => e a _ h fun _ z => nomatch z
theorem pe_sortedLam {X : Cx} {T : List (Addr × Str)} {c P : Addr} {k : Nat} {params : Arguments} {scope : Scope} {x nm : Str} {j1 j2 : Nat} {p1 p2 p3 p4 p5 lpos p kp pos : Pos} {e : Expr} {tA : TA} (hu : X.A.units + 64 < cLine) (hr : Room k X.A) (hg : Gl X nm) (hnm : nm = "sorted") (hm : X.mg nm = none) (ha : PA X [e] tA)
    (TB : TabB X.base X.mg c P) (hcode : X.env.code = .ref c) (hmT : (P, X.env.qual ++ "<lambda>") ∈ T) (huT : ∀ p ∈ T, p.1 = P → p.2 = X.env.qual ++ "<lambda>") (hdef : defaultsOf params X.env = ([], []))
    (hbind : ∀ (q : Str) (pm cv ctv v : Value), bindArgs (PySem.W.kla_fn "<lambda>" q params (ixx x j1 j2 p1 p2 p3 p4 p5) scope [] pm cv ctv) ⟨[v], []⟩ = pure [(x, v)]) (hk : scope.kind = .function) (hc : scope.isCoroutine = false) (hge : scope.isGenerator = false)
    (hown : ∀ y ∈ scope.names, y.2 ≠ .cell ∧ y.2 ≠ .free) (hx : scope.names.lookup x = some .local) (hcl : cloFrom X.env.cells scope.names [] = []) (hdx : (x == ("__debug__" : Str)) = false)
    (he : backTo pos (starEach [e] X.env) = (false, eval e X.env) :: backTo pos (starEach [] X.env) := by rfl) (hpl : (backTo pos (starEach [e] X.env)).any (·.1) = false := by rfl)
    (hkw : backToKw pos (keywordEach [⟨some "key", .Lambda params (ixx x j1 j2 p1 p2 p3 p4 p5) scope lpos, kp⟩] X.env) = [(some (Str.ofString "key"), ((do let v ← eval (.Lambda params (ixx x j1 j2 p1 p2 p3 p4 p5) scope lpos) X.env; standAt pos; pure v) : Sem Value))] := by rfl) :
    PE X (.Call (.Name nm p) [e] [⟨some "key", .Lambda params (ixx x j1 j2 p1 p2 p3 p4 p5) scope lpos, kp⟩] pos) (tSortLam T tA) := by
  subst hnm
  refine ⟨fun pins s σ H Q I h => ?_⟩
  refine wpAny_Call_Name_kw (ld_blt I hg hm b_sorted' ?_ (by decide) (by decide))
  refine PyProof.Rows.callWith_kw (thn (ha.run pos pins s σ H _ I h) fun us s1 hq => ?_) he hpl (by rw [hkw]; rfl) (by rw [hkw]; rfl)
  obtain ⟨vs, H1, I1, r1, T1, a, seen, rfl, hL, hle, q⟩ := hq
  rw [hkw]
  show wpAny _ _ (evalAll [do let v ← eval (.Lambda params (ixx x j1 j2 p1 p2 p3 p4 p5) scope lpos) X.env; standAt pos; pure v]) _ _ s1
  have hfree : ∀ y ∈ scope.names, y.2 = .free → ∃ c, X.env.cells.lookup y.1 = some c := fun y hy z => absurd z (hown y hy).2
  refine wpAny_evalAll_cons (wpAny_bind (lam_make2 I1 TB hcode hmT huT T1 hdef hfree fun f c' pm ctv H2 s2 I2 eN T2 hf hfn hfr hco => wpAny_bind (wpAny_standAt (wpAny_pure ?_))))
  refine wpAny_evalAll_nil ?_
  obtain ⟨u, rfl, ru⟩ := vals1 r1
  obtain rfl : u = Value.ref a := ru
  rw [hcl] at hf
  obtain ⟨ws, ha1, hws⟩ := hL
  have ha2 : H2 a = some (.lst ws) := eN _ _ ha1 fun _ z => nomatch z
  have hws2 : HoA H2 ws seen := hws.mono (ExtN.t eN)
  obtain ⟨its, rv, hl, hz⟩ := I2.list (SqL.of (K := X.K) ha2)
  have ee := each_mk (H := H2) rv hws2
  show wpAny _ _ (call (.builtin "sorted") [.ref a] [(Str.ofString "key", .ref f)]) _ _ s2
  refine PySem.W.sorted_key_data (b := false) (fun p : Told => .str p.1.a) hl.isList ee (AllAlike.of fun _ _ => by simp [PySem.W.alike]) (Sortable.others fun _ => ⟨(fun z => nomatch z), (fun _ z => nomatch z)⟩) (small_le (by omega)) (fun b _ => ?_) (ksk_s1 _ _) (fun _ => ksk_l1 _ _) (fun _ => ksk_t1 _ _)
    (fun v sx hR _ h tk kp => ?_) fun out c h' tk kp fresh hD hlo eo => ?_
  · have : (PyData.str b.1.a).depth = 0 := by simp [PyData.depth]
    rw [this]
    omega
  · obtain ⟨v0, rv0, hv0⟩ := hR
    obtain ⟨b1, y1, y2, rfl, hb1, hy1, hy2⟩ := ho_pair hv0
    obtain rfl : v = Value.ref b1 := rv0
    obtain ⟨b2, z0, z1, z2, rfl, hb2, hz0, hz1, hz2⟩ := ho_t3 hy1
    have ez := ho_str hz0
    subst ez
    obtain ⟨it1, rt1, pt1, _⟩ := I2.tuple (SqT.of (K := X.K) hb1)
    obtain ⟨w1, w2, rfl, rw1, rw2⟩ := vals2 rt1
    obtain rfl : w1 = Value.ref b2 := rw1
    obtain ⟨it2, rt2, pt2, _⟩ := I2.tuple (SqT.of (K := X.K) hb2)
    cases rt2 with
    | cons e1 rt2 =>
      cases rt2 with
      | cons e2 rt2 =>
        cases rt2 with
        | cons e3 rt2 =>
          cases rt2
          obtain ⟨tt, rfl⟩ := e1
          obtain ⟨⟨oc, cvs, ct, g1, g2, g3⟩, _, _⟩ := I2.hok c' _ hco
          have pt1' : s2.heap.IsTuple b1 #[.ref b2, w2] := pt1
          refine lam_turn (s := { s2 with heap := h, toks := tk }) (kp _ _ hf) ⟨c', oc, cvs, ct, rfl, kp _ _ g1, g2, g3⟩ (hbind _ _ _ _ _) hk hc hge (fun y hy => (hown y hy).1) hx (pt1'.at fun o e => kp _ o e) (Heap.IsTuple.at pt2 fun o e => kp _ o e) hr.depth ?_ hdx
          exact I2.nolimit.keeps kp
  · obtain ⟨zs, rz, hzs⟩ := each_split eo
    have fr : H2 (s2.heap.objs.size + 1) = none := I2.hok.fresh (Nat.le_succ _)
    have hlen : zs.length ≤ sizeLine := by
      rw [hzs.length, List.length_mergeSort]
      exact small_le (by omega)
    refine ⟨.ref (s2.heap.objs.size + 1), upd H2 (s2.heap.objs.size + 1) (.lst zs), I2.laid (t' := tk) kp (Nat.le_succ _) ⟨hlen, out, c, rz, hD⟩, rfl, q _ _ ?_ ?_ (Ls.new fr hzs)⟩
    · exact eN.trans (ExtN.of (Same.new fr))
    · exact T2.ext (Same.new fr)
end Sly

set_option Elab.async false
set_option linter.all false
set_option maxRecDepth 100000
set_option maxHeartbeats 4000000
/-! Sets of at most four tuples of texts and ints: set(list), sorted(set). -/
namespace Sly
open PySem PySem.Spec PyProof.Rows L2
abbrev mkHash (P : Program) (w : PySem.World) (k : List L2.Key) : Int := tupleKeyHash (mixKind P w) k
abbrev IsM (P : Program) (w : PySem.World) (h : Heap) (k : List L2.Key) (a : Addr) : Prop := IsTupleKey (mixKind P w) h k a
section
variable {P : Program} {w : PySem.World} {A : Around} {E : Value → Shared → Prop} {s : Shared}
/-- ints and texts show nothing -/
def Plainly (v : Value) : Prop := (∃ i t, v = Value.int i t) ∨ ∃ x t, v = Value.str x t
theorem items_plain {k : List L2.Key} {vs : List Value} (h : ItemsAre (mixKind P w) k vs) : ∀ v ∈ vs, Plainly v := by
  induction h with
  | nil => exact fun v hv => nomatch hv
  | @cons k0 v' ks vs h1 _ ih =>
    refine List.forall_mem_cons.mpr ⟨?_, ih⟩
    rcases keyIs_shape h1 with ⟨i, t, _, e⟩ | ⟨x, t, _, e⟩
    · exact .inl ⟨i, t, e⟩
    · exact .inr ⟨x, t, e⟩
theorem stmt_plain {v : Value} (h : Plainly v) (n : Nat) : ofAClassStatement n v = pure false := by
  rcases h with ⟨i, t, rfl⟩ | ⟨x, t, rfl⟩ <;> cases n <;> rfl
theorem hash_strv (n : Nat) (x : Str) (t : Tok) : hashByValue n (.str x t) = pure false := by
  cases n <;> simp [hashByValue]
theorem stmt_tup {k : List L2.Key} {b : Addr} {Q : Bool → Shared → Prop} (hk : IsM P w s.heap k b) (h : Q false s) : wpAny (model P w) A (ofAClassStatement 8 (.ref b)) Q E s := by
  have hT := hk.typeIs
  obtain ⟨o, items, n, ho, _, hd, hi⟩ := hk
  unfold ofAClassStatement
  refine wpAny_bind (wpAny_typeOf hT ?_)
  dsimp only
  have e : (("tuple" : String) == "tuple") = true := by decide
  simp only [e, if_true, Bool.not_true, Bool.false_eq_true, if_false]
  try refine wpAny_bind (wpAny_pure ?_)
  try simp only [Bool.not_true, Bool.false_eq_true, if_false]
  show wpAny _ _ (seqItems? (.ref b) >>= _) _ _ s
  refine wpAny_bind (wpAny_seqItems ho hd ?_)
  dsimp only
  refine wpAny_bind ?_
  show wpAny _ _ (forIn items _ _) _ _ s
  rw [← Array.forIn_toList]
  refine wpAny_forIn_list _ (fun rest r s' => r.1 = none ∧ s' = s ∧ ∀ v ∈ rest, Plainly v) _ ?_ ?_ _ _ ⟨rfl, rfl, items_plain hi⟩
  · rintro v rest r s' ⟨hr, rfl, hall⟩
    rw [stmt_plain (hall v List.mem_cons_self)]
    refine wpAny_bind (wpAny_pure ?_)
    simp only [Bool.false_eq_true, if_false]
    exact wpAny_pure ⟨rfl, rfl, fun u hu' => hall u (List.mem_cons_of_mem _ hu')⟩
  · rintro ⟨r1, r2⟩ s' ⟨hr, rfl, _⟩
    simp only at hr
    subst hr
    exact wpAny_pure h
/-- whether its hash is by value is left open -/
theorem hash_tup {k : List L2.Key} {b : Addr} {Q : Bool → Shared → Prop} (hk : IsM P w s.heap k b) (h : ∀ c, Q c s) : wpAny (model P w) A (hashByValue 8 (.ref b)) Q E s := by
  have hT := hk.typeIs
  obtain ⟨o, items, n, ho, _, hd, hi⟩ := hk
  unfold hashByValue
  refine wpAny_bind (wpAny_specialOf hT F.slot_tuple_hash.lookup ?_)
  show wpAny _ _ (seqItems? (.ref b) >>= _) _ _ s
  refine wpAny_bind (wpAny_seqItems ho hd ?_)
  refine wpAny_bind ?_
  show wpAny _ _ (forIn items _ _) _ _ s
  rw [← Array.forIn_toList]
  refine wpAny_forIn_list _ (fun rest r s' => r.1 = none ∧ s' = s ∧ ∀ v ∈ rest, Plainly v) _ ?_ ?_ _ _ ⟨rfl, rfl, items_plain hi⟩
  · rintro v rest r s' ⟨hr, rfl, hall⟩
    rcases hall v List.mem_cons_self with ⟨i, t, rfl⟩ | ⟨x, t, rfl⟩
    · rw [hashBy_int]
      refine wpAny_bind (wpAny_pure ?_)
      simp only [Bool.not_true, Bool.false_eq_true, if_false]
      exact wpAny_pure ⟨rfl, rfl, fun u hu' => hall u (List.mem_cons_of_mem _ hu')⟩
    · rw [hash_strv]
      refine wpAny_bind (wpAny_pure ?_)
      simp only [Bool.not_false, if_true]
      exact wpAny_pure (wpAny_pure (h false))
  · rintro ⟨r1, r2⟩ s' ⟨hr, rfl, _⟩
    simp only at hr
    subst hr
    exact wpAny_pure (h true)
/-- a search among such tuples shows nothing -/
theorem seen_none {k : List L2.Key} {b : Addr} {Q : Bool → Shared → Prop} (hk : IsM P w s.heap k b) {ys : List Value} (hy : ∀ y ∈ ys, ∃ k' c, y = Value.ref c ∧ IsM P w s.heap k' c) (h : Q false s) :
    wpAny (model P w) A (searchCouldBeSeen (.ref b) ys) Q E s := by
  unfold searchCouldBeSeen
  refine wpAny_bind ?_
  refine wpAny_forIn_list _ (fun rest r s' => r.1 = none ∧ s' = s ∧ ∀ y ∈ rest, ∃ k' c, y = Value.ref c ∧ IsM P w s.heap k' c) _ ?_ ?_ _ _ ⟨rfl, rfl, hy⟩
  · rintro v rest r s' ⟨hr, rfl, hall⟩
    obtain ⟨k', c, rfl, hc⟩ := hall v List.mem_cons_self
    have rest' : ∀ y ∈ rest, ∃ k' c, y = Value.ref c ∧ IsM P w s'.heap k' c := fun u hu' => hall u (List.mem_cons_of_mem _ hu')
    dsimp only
    by_cases hv : (b == c || (carriedByValue (.ref b) && carriedByValue (.ref c))) = true
    · exact wp_if_pos hv (wpAny_pure ⟨rfl, rfl, rest'⟩)
    · refine wp_if_neg hv (wpAny_bind (wpAny_eqIsQuiet_tuple hk ?_))
      simp only [Bool.not_true, Bool.false_eq_true, if_false]
      refine wpAny_bind (wpAny_eqIsQuiet_tuple hc ?_)
      simp only [Bool.not_true, Bool.false_eq_true, if_false]
      refine wpAny_bind (stmt_tup hk ?_)
      simp only [Bool.false_eq_true, if_false]
      refine wpAny_bind (stmt_tup hc ?_)
      simp only [Bool.false_eq_true, if_false]
      exact wpAny_pure ⟨rfl, rfl, rest'⟩
  · rintro ⟨r1, r2⟩ s' ⟨hr, rfl, _⟩
    simp only at hr
    subst hr
    exact wpAny_pure h
/-- a set of at most four such tuples: the addresses and the keys, in the table's order -/
structure KSet (P : Program) (w : PySem.World) (h : Heap) (a : Addr) (L : List (Addr × List L2.Key)) (es : Array (Int × Value)) (ep : Nat) (t : SetTable) : Prop where
  ob : ∃ o, h.get? a = some o ∧ o.ExactSet ∧ o.data = .set es ep t
  rows : es.toList = L.map fun p => (mkHash P w p.2, Value.ref p.1)
  tab : TabOk t (L.map fun p => mkHash P w p.2)
  nd : (L.map (·.2)).Nodup
  tup : ∀ p ∈ L, IsM P w h p.2 p.1
  led : w.params.followText "set-order" = true ∨ t.led = true
  mask : t.mask = 7
  few : L.length ≤ 4
variable {a : Addr} {L : List (Addr × List L2.Key)} {es : Array (Int × Value)} {ep : Nat} {t : SetTable}
theorem KSet.size (R : KSet P w s.heap a L es ep t) : es.size = L.length := by
  have h := congrArg List.length R.rows
  rwa [Array.length_toList, List.length_map] at h
theorem KSet.fits (R : KSet P w s.heap a L es ep t) : t.fits es.size = true := by
  have h1 := R.tab.sz
  rw [List.length_map] at h1
  have h2 := R.size
  have h3 := R.few
  have h4 := R.mask
  unfold SetTable.fits SetTable.fill
  rw [R.tab.dm, Bool.and_eq_true, beq_iff_eq, decide_eq_true_eq]
  show t.place.size = es.size ∧ t.place.size + 0 ≤ t.mask
  omega
theorem KSet.entry (R : KSet P w s.heap a L es ep t) {i : Nat} {p : Addr × List L2.Key} (h : L[i]? = some p) : es[i]? = some (mkHash P w p.2, Value.ref p.1) := by
  rw [← Array.getElem?_toList, R.rows, List.getElem?_map, h]
  rfl
theorem KSet.gw (R : KSet P w s.heap a L es ep t) : ¬ t.gaveWay = true := by
  unfold SetTable.gaveWay
  rw [mask_odd R.tab.mok]
  decide
/-- the c-th probe of a hash -/
abbrev prb (m : Nat) (h : Int) (c : Nat) : SetTable.Probe := nth m (runAt m (SetTable.bits h % (m + 1)) (SetTable.bits h)) c
theorem prb_dummy (m : Nat) (h : Int) (c : Nat) : (prb m h c).dummy = none := by
  have key : ∀ (n : Nat) (p : SetTable.Probe), p.dummy = none → (nth m p n).dummy = none := by
    intro n
    induction n with
    | zero => exact fun p h => h
    | succ n ih =>
      intro p h
      refine ih (adv m p) ?_
      unfold adv
      split <;> exact h
  exact key c _ rfl
theorem prb_add (m : Nat) (h : Int) (c q : Nat) : nth m (prb m h c) q = prb m h (c + q) := (nth_add m c _ q).symm
/-- the search for k, standing at the c-th probe: k's own place is not passed yet -/
theorem ks_search (R : KSet P w s.heap a L es ep t) {x : Addr} {k : List L2.Key} (hx : IsM P w s.heap k x) (hu : A.units < cLine) {K : Nat} (hKf : K < 10 * SetTable.turns t.mask)
    (hK : way t.mask (mkHash P w k) K ∉ t.place.toList) (hKb : ∀ c, c < K → way t.mask (mkHash P w k) c ∈ t.place.toList) {Q : SetFound → Shared → Prop}
    (hin : k ∈ L.map (·.2) → Q (.there none) s) (hout : k ∉ L.map (·.2) → Q (.free (way t.mask (mkHash P w k) K) false) s) :
    ∀ (f c : Nat) (stand : Option SetTable.Probe), stand.getD (t.probeStart (mkHash P w k)) = prb t.mask (mkHash P w k) c → c ≤ K → K - c < f →
      (∀ (i : Nat) p, L[i]? = some p → p.2 = k → ∃ c', c ≤ c' ∧ c' < K ∧ t.place.toList[i]? = some (way t.mask (mkHash P w k) c')) →
      wpAny (model P w) A (setSearchFrom a (.ref x) (mkHash P w k) true f stand) Q E s := by
  obtain ⟨o, ho, hex, hd⟩ := R.ob
  have hashAt : ∀ (i : Nat) p, L[i]? = some p → (fun i => (es[i]?.map (·.1)).getD 0) i = mkHash P w p.2 := fun i p hp => by
    show (es[i]?.map (·.1)).getD 0 = _
    rw [R.entry hp]
    rfl
  have way_of : ∀ c q, (nth t.mask (prb t.mask (mkHash P w k) c) q).j = way t.mask (mkHash P w k) (c + q) := fun c q => congrArg SetTable.Probe.j (prb_add _ _ c q)
  intro f
  induction f with
  | zero => exact fun c stand _ _ hf => absurd hf (Nat.not_lt_zero _)
  | succ f ih =>
    intro c stand hst hc hf hre
    rw [setSearchFrom_succ]
    refine wpAny_bind (wpAny_setState_of ho hd R.fits ?_)
    dsimp only
    refine wp_if_neg R.gw ?_
    try refine wpAny_bind (wpAny_pure ?_)
    have spec := go_spec t R.tab.ris R.tab.dm (fun i => (es[i]?.map (·.1)).getD 0) (mkHash P w k) (10 * SetTable.turns t.mask) (K - c) _ (prb_dummy t.mask (mkHash P w k) c) (by omega)
      (fun q hq => by rw [way_of]; exact hKb (c + q) (by omega)) (by rw [way_of, show c + (K - c) = K by omega]; exact hK)
    rcases spec with ⟨q, i, hq, hi, hh, hno, hpr⟩ | ⟨hno, hpr⟩
    · rw [way_of] at hi
      rw [show t.probe (fun i => (es[i]?.map (·.1)).getD 0) (mkHash P w k) (stand.getD (t.probeStart (mkHash P w k))) = some (.candidate (way t.mask (mkHash P w k) (c + q)) i (prb t.mask (mkHash P w k) (c + (q + 1)))) from by
        rw [hst, ← way_of, ← prb_add]
        exact hpr]
      dsimp only
      have hil : i < L.length := by
        have h1 := (List.getElem?_eq_some_iff.mp hi).1
        have h2 := R.tab.sz
        rw [List.length_map] at h2
        rw [Array.length_toList] at h1
        omega
      have hp : L[i]? = some L[i] := List.getElem?_eq_getElem hil
      generalize L[i] = p at hp
      have hmem : p ∈ L := List.mem_of_getElem? hp
      have hsl : t.slot (way t.mask (mkHash P w k) (c + q)) = .live i := slot_live R.tab.ris hi
      have rest : wpAny (model P w) A (searchRest a (.ref x) (mkHash P w k) true f es t (way t.mask (mkHash P w k) (c + q)) i (prb t.mask (mkHash P w k) (c + (q + 1)))) Q E s := by
        unfold searchRest
        rw [R.entry hp]
        dsimp only
        refine wpAny_bind (wpAny_holding (wpAny_eqBool_tuple hu (R.tup p hmem) hx ?_))
        refine wpAny_bind (wpAny_setState_of ho hd R.fits ?_)
        dsimp only
        by_cases hkk : p.2 = k
        · exact wp_if_pos (by simp [hkk]) (wpAny_pure (hin (List.mem_map.mpr ⟨p, hmem, hkk⟩)))
        · refine wp_if_neg (by simp [hkk]) ?_
          try refine wpAny_bind (wpAny_pure ?_)
          rw [sameMem]
          dsimp only
          simp only [if_true, hsl, R.entry hp]
          refine wpAny_bind (wpAny_isSame_ref_self (wpAny_bind (wpAny_pure ?_)))
          simp only [if_true]
          refine wp_if_neg (by simp [hkk]) ?_
          refine ih (c + (q + 1)) _ rfl (by omega) (by omega) fun i0 p0 h0 hk0 => ?_
          obtain ⟨c', a1, a2, a3⟩ := hre i0 p0 h0 hk0
          refine ⟨c', Nat.le_of_not_lt fun z => ?_, a2, a3⟩
          rcases Nat.lt_or_ge c' (c + q) with y | y
          · refine hno (c' - c) i0 (by omega) (by rw [way_of, show c + (c' - c) = c' by omega]; exact a3) ?_
            exact (hashAt i0 p0 h0).trans (congrArg (mkHash P w) hk0)
          · have ec : c' = c + q := by omega
            rw [ec] at a3
            have s0 := slot_live R.tab.ris a3
            rw [hsl] at s0
            injection s0 with s0
            rw [← s0, hp] at h0
            exact hkk ((congrArg Prod.snd (Option.some.inj h0)).trans hk0)
      by_cases hl : t.led = true
      · refine wp_if_neg (by simp [hl]) ?_
        try refine wpAny_bind (wpAny_pure ?_)
        exact rest
      · refine wp_if_pos (by simp [hl]) ?_
        refine wpAny_bind (seen_none hx (fun y hy => ?_) ?_)
        · obtain ⟨e, he, ee⟩ := List.mem_map.mp hy
          have he1 : e ∈ es ∧ e.1 = mkHash P w k := by simpa using he
          have he2 : e ∈ es.toList := by simpa using he1.1
          rw [R.rows] at he2
          obtain ⟨p2, hp2, e2⟩ := List.mem_map.mp he2
          exact ⟨p2.2, p2.1, by rw [← ee, ← e2], R.tup p2 hp2⟩
        · refine wp_if_neg (by decide) ?_
          try refine wpAny_bind (wpAny_pure ?_)
          exact rest
    · rw [show t.probe (fun i => (es[i]?.map (·.1)).getD 0) (mkHash P w k) (stand.getD (t.probeStart (mkHash P w k))) = some (.empty (way t.mask (mkHash P w k) K) none) from by
        rw [hst, show way t.mask (mkHash P w k) K = (nth t.mask (prb t.mask (mkHash P w k) c) (K - c)).j from by rw [way_of, show c + (K - c) = K by omega]]
        exact hpr]
      dsimp only
      refine wpAny_pure (hout fun hm => ?_)
      obtain ⟨p0, h0, hk0⟩ := List.mem_map.mp hm
      obtain ⟨i0, hi0, e0⟩ := List.getElem_of_mem h0
      have h00 : L[i0]? = some p0 := by rw [List.getElem?_eq_getElem hi0, e0]
      obtain ⟨c', a1, a2, a3⟩ := hre i0 p0 h00 hk0
      refine hno (c' - c) i0 (by omega) (by rw [way_of, show c + (c' - c) = c' by omega]; exact a3) ?_
      exact (hashAt i0 p0 h00).trans (congrArg (mkHash P w) hk0)
theorem isM_same {h h' : Heap} {k : List L2.Key} {a b : Addr} {o : Obj} {es : Array (Int × Value)} {ep : Nat} {t : SetTable} (hb : IsM P w h k b) (ho : h.get? a = some o) (hd : o.data = .set es ep t) (hs : Heap.SameBut a h h') : IsM P w h' k b := by
  obtain ⟨o', items, n, ho', hc, hd', hi⟩ := hb
  refine ⟨o', items, n, (hs.2 b fun z => ?_).trans ho', hc, hd', hi⟩
  rw [z, ho] at ho'
  cases ho'
  rw [hd] at hd'
  exact nomatch hd'
/-- adding -/
theorem ks_add (R : KSet P w s.heap a L es ep t) {x : Addr} {k : List L2.Key} (hx : IsM P w s.heap k x) (hu : A.units < cLine) (hfew : k ∉ L.map (·.2) → L.length < 4) {Q : Bool → Shared → Prop}
    (hQ : ∀ b h' L' es' ep' t', Heap.SameBut a s.heap h' → KSet P w h' a L' es' ep' t' → (k ∈ L.map (·.2) → L' = L) → (k ∉ L.map (·.2) → L'.Perm ((x, k) :: L)) → Q b { s with heap := h' }) :
    wpAny (model P w) A (setAddHashed a (.ref x) (mkHash P w k)) Q E s := by
  obtain ⟨o, ho, hex, hd⟩ := R.ob
  have hsl := R.size
  have hmask := R.mask
  have h4 := R.few
  unfold setAddHashed
  refine wpAny_holding ?_
  rw [show (100000 : Nat) = 99999 + 1 from rfl, setAddHashedIn_succ]
  refine wpAny_bind (wpAny_setState_of ho hd R.fits ?_)
  dsimp only
  refine wp_if_neg (by simp [byScan, Value.scannable]) ?_
  try refine wpAny_bind (wpAny_pure ?_)
  obtain ⟨K, hKf, hK, hKb⟩ := R.tab.first (by rw [List.length_map]; omega) (mkHash P w k)
  have hbig : K < 100000 := by
    have : 10 * SetTable.turns t.mask ≤ 1420 := by
      unfold SetTable.turns
      omega
    omega
  have before : ∀ (i : Nat) p, L[i]? = some p → p.2 = k → ∃ c', 0 ≤ c' ∧ c' < K ∧ t.place.toList[i]? = some (way t.mask (mkHash P w k) c') := fun i p hp hk => by
    have hi : (L.map fun p => mkHash P w p.2)[i]? = some (mkHash P w k) := by rw [List.getElem?_map, hp, ← hk]; rfl
    have hil : i < t.place.toList.length := by
      have h1 : i < L.length := (List.getElem?_eq_some_iff.mp hp).1
      have h2 := R.tab.sz
      rw [List.length_map] at h2
      rw [Array.length_toList]
      omega
    have hj := List.getElem?_eq_getElem hil
    obtain ⟨c, hc, e⟩ := R.tab.before hK hi hj
    exact ⟨c, Nat.zero_le _, hc, by rw [hj, e]⟩
  unfold setSearch
  refine wpAny_bind (ks_search R hx hu hKf hK hKb (fun hm => ?_) (fun hm => ?_) 100000 0 none rfl (Nat.zero_le _) (by omega) before)
  · dsimp only
    exact wpAny_pure (hQ false s.heap L es ep t (Heap.SameBut.refl a s.heap) R (fun _ => rfl) fun z => absurd hm z)
  · dsimp only
    refine wpAny_bind (wpAny_setState_of ho hd R.fits ?_)
    dsimp only
    have hfew' := hfew hm
    obtain ⟨q1, q2, q3, q4, q5, q6, q7, q8, q9⟩ := R.tab.put hK hKb
    generalize hpt : t.put (way t.mask (mkHash P w k) K) = pt at q1 q3 q4 q5 q6 q7 q8 q9 ⊢
    obtain ⟨t1, p⟩ := pt
    dsimp only at q1 q3 q4 q5 q6 q7 q8 q9 ⊢
    subst q1
    have hin : (SetTable.insertAt es (SetTable.below t.place (way t.mask (mkHash P w k) K)) (mkHash P w k, Value.ref x)).toList = (L.take (SetTable.below t.place (way t.mask (mkHash P w k) K)) ++ (x, k) :: L.drop (SetTable.below t.place (way t.mask (mkHash P w k) K))).map fun p => (mkHash P w p.2, Value.ref p.1) := by
      rw [SetTable.toList_insertAt, R.rows, List.map_append, List.map_cons, List.map_take, List.map_drop]
    generalize SetTable.below t.place (way t.mask (mkHash P w k) K) = p at q2 q3 hin ⊢
    have pm : (L.take p ++ (x, k) :: L.drop p).Perm ((x, k) :: L) := put_perm L p (x, k)
    have hlen : (L.take p ++ (x, k) :: L.drop p).length = L.length + 1 := pm.length_eq
    have hhs : (L.take p ++ (x, k) :: L.drop p).map (fun p => mkHash P w p.2) = (L.map fun p => mkHash P w p.2).take p ++ mkHash P w k :: (L.map fun p => mkHash P w p.2).drop p := by
      rw [List.map_append, List.map_cons, List.map_take, List.map_drop]
    rw [← hhs] at q3
    have nd1 : ((L.take p ++ (x, k) :: L.drop p).map (·.2)).Nodup := (pm.map (·.2)).nodup_iff.mpr (List.nodup_cons.mpr ⟨hm, R.nd⟩)
    have hes : (SetTable.insertAt es p (mkHash P w k, Value.ref x)).size = L.length + 1 := by
      have h := congrArg List.length hin
      rwa [Array.length_toList, List.length_map, hlen] at h
    generalize SetTable.insertAt es p (mkHash P w k, Value.ref x) = es1 at hin hes ⊢
    generalize L.take p ++ (x, k) :: L.drop p = L1 at pm hlen q3 nd1 hin
    have fin : ∀ t2 : SetTable, t2.place = t1.place → t2.dummies = t1.dummies → t2.mask = t1.mask → t2.led = t1.led → t2.tooFull = t1.tooFull → TabOk t2 (L1.map fun p => mkHash P w p.2) →
        wpAny (model P w) A (storeSet a es1 t2 >>= fun _ => if (!false && t2.tooFull) = true then (setRelay a (SetTable.grown (es.size + 1)) >>= fun _ => pure true) else pure true) Q E s := by
      intro t2 p1 p2 p3 p4 p5 T2
      refine wpAny_bind (wpAny_storeSet_of ho hd ?_ (by rw [hes, sizeLine_eq]; omega))
      have sb : Heap.SameBut a s.heap (s.heap.update a (Obj.putSet es1 t2)) := Heap.SameBut.update ..
      have ho1 := store_at (es' := es1) (t' := t2) ho hd
      generalize s.heap.update a (Obj.putSet es1 t2) = h1 at sb ho1 ⊢
      have nf : ¬ t2.tooFull = true := fun hf => by
        rw [p5] at hf
        unfold SetTable.tooFull at hf
        rw [decide_eq_true_eq, q9, List.length_map, q4, hmask] at hf
        omega
      refine wp_if_neg (by simp [nf]) ?_
      refine wpAny_pure (hQ true h1 L1 es1 (ep + 1) t2 sb ⟨⟨_, ho1, ⟨hex.1, hex.2.1, hex.2.2⟩, rfl⟩, hin, T2, nd1, fun p hp => ?_, ?_, ?_, by omega⟩ (fun z => absurd z hm) fun _ => pm)
      · rcases List.mem_cons.mp (pm.mem_iff.mp hp) with e | hp
        · rw [e]; exact isM_same hx ho hd sb
        · exact isM_same (R.tup p hp) ho hd sb
      · rw [p4, q5]; exact R.led
      · rw [p3, q4, hmask]
    have T2 : TabOk { t1 with plain := false } (L1.map fun p => mkHash P w p.2) := ⟨q3.ris, q3.dm, q3.sz, q3.mok, q3.bd, q3.reach⟩
    have two : ∀ c : Bool, wpAny (model P w) A (storeSet a es1 (if c = true then t1 else { t1 with plain := false }) >>= fun _ => if (!false && (if c = true then t1 else { t1 with plain := false }).tooFull) = true then (setRelay a (SetTable.grown (es.size + 1)) >>= fun _ => pure true) else pure true) Q E s := by
      intro c
      cases c with
      | true => exact fin t1 rfl rfl rfl rfl rfl q3
      | false => exact fin { t1 with plain := false } rfl rfl rfl rfl rfl T2
    by_cases hp1 : t1.plain = true
    · first
        | exact wpAny_bind (wp_if_pos hp1 (hash_tup hx fun c => two c))
        | exact wp_if_pos hp1 (wpAny_bind (hash_tup hx fun c => two c))
    · first
        | exact wpAny_bind (wp_if_neg hp1 (wpAny_pure (two true)))
        | exact wp_if_neg hp1 (wpAny_bind (wpAny_pure (two true)))
end
end Sly

set_option Elab.async false
set_option linter.all false
set_option maxRecDepth 100000
set_option maxHeartbeats 4000000
/-! set(list) of tuples of texts and ints, at most four distinct ones. -/
namespace Sly
open PySem PySem.Spec PyProof.Rows L2
theorem nodup_le {α : Type} [DecidableEq α] : ∀ (l D : List α), l.Nodup → (∀ x ∈ l, x ∈ D) → l.length ≤ D.length
  | [], D, _, _ => Nat.zero_le _
  | x :: r, D, nd, h => by
    rw [List.nodup_cons] at nd
    have hx := h x List.mem_cons_self
    have q := nodup_le r (D.erase x) nd.2 fun y hy => (List.mem_erase_of_ne (fun e => nd.1 (by rw [← e]; exact hy))).mpr (h y (List.mem_cons_of_mem _ hy))
    rw [List.length_erase_of_mem hx] at q
    have := List.length_pos_of_mem hx
    rw [List.length_cons]
    omega
/-- what the set has got from the first i items -/
structure GotM (ks : List (Addr × List L2.Key)) (i : Nat) (L : List (Addr × List L2.Key)) : Prop where
  sub : ∀ p ∈ L, p ∈ ks
  all : ∀ p ∈ ks.take i, p.2 ∈ L.map (·.2)
section
variable {P : Program} {w : PySem.World} {A : Around} {E : Value → Shared → Prop} {s : Shared}
theorem isM_keep {h h' : Heap} {k : List L2.Key} {b : Addr} (x : IsM P w h k b) (hk : ∀ c o, h.get? c = some o → h'.get? c = some o) : IsM P w h' k b := by
  obtain ⟨o, items, n, ho, r⟩ := x
  exact ⟨o, items, n, hk b o ho, r⟩
theorem KSet.keep {h h' : Heap} {a : Addr} {L : List (Addr × List L2.Key)} {es : Array (Int × Value)} {ep : Nat} {t : SetTable} (R : KSet P w h a L es ep t) (ha : ∀ o, h.get? a = some o → h'.get? a = some o) (ht : ∀ p ∈ L, IsM P w h' p.2 p.1) : KSet P w h' a L es ep t := by
  obtain ⟨o, ho, r⟩ := R.ob
  exact ⟨⟨o, ha o ho, r⟩, R.rows, R.tab, R.nd, ht, R.led, R.mask, R.few⟩
theorem kset_fresh {h : Heap} {a : Addr} (ho : h.get? a = some { cls := .type "set", dict := none, data := .set #[] 0 (.fresh 0 0 (!w.params.followText "set-order")) }) : KSet P w h a [] #[] 0 (.fresh 0 0 (!w.params.followText "set-order")) where
  ob := ⟨_, ho, ⟨rfl, rfl, rfl⟩, rfl⟩
  rows := rfl
  tab := ⟨List.Pairwise.nil, rfl, rfl, .inl rfl, fun x hx => (by cases hx), fun i h j hi => (by simp at hi)⟩
  nd := List.nodup_nil
  tup := fun p hp => (by cases hp)
  led := by
    show _ ∨ (!w.params.followText "set-order") = true
    cases w.params.followText "set-order"
    · exact .inr rfl
    · exact .inl rfl
  mask := rfl
  few := by
    show 0 ≤ 4
    decide
/-- set.update's loop -/
theorem ks_update {I : Addr} {fp wr : List Addr} {G : Array GenState → Array GenState → Prop} {n : Nat} {Pv : Nat → Value → Prop} {St : Nat → Shared → Prop} {R : Result → Shared → Prop}
    (W : WalksS P w A.in1 I fp wr G n Pv St) (S : Addr) (hSf : S ∉ fp) (ks : List (Addr × List L2.Key)) (D : List (List L2.Key)) (hD : D.length ≤ 4) (hkD : ∀ p ∈ ks, p.2 ∈ D) (hn : n = ks.length) (hval : ∀ i v, Pv i v → ∃ p, ks[i]? = some p ∧ v = .ref p.1)
    (h0 : Heap) (hk : ∀ p ∈ ks, IsM P w h0 p.2 p.1) (hS0 : h0.get? S = none) (hw0 : ∀ b ∈ wr, h0.get? b = none) (hu : A.in1.units < cLine) :
    ∀ (k i : Nat) (s : Shared), n - i = k → i ≤ n → St i s → (∀ b o, h0.get? b = some o → s.heap.get? b = some o) → (∃ L es ep t, KSet P w s.heap S L es ep t ∧ GotM ks i L) →
      (∀ s' L es ep t, Moved (S :: wr) G s s' → KSet P w s'.heap S L es ep t → GotM ks n L → (∀ b o, h0.get? b = some o → s'.heap.get? b = some o) → R (.ok (.ret .none)) s') →
      codeAny (model P w) A (.builtin "set.update.loop" ⟨[.ref S, .ref I], []⟩) R s := by
  have hSw : S ∉ wr := fun h => hSf (W.sub _ h)
  have hsub : ∀ b ∈ wr, b ∈ S :: wr := fun b hb => List.mem_cons_of_mem _ hb
  have keepM : ∀ {s s' : Shared}, Moved wr G s s' → (∀ b o, h0.get? b = some o → s.heap.get? b = some o) → ∀ b o, h0.get? b = some o → s'.heap.get? b = some o := fun hm hkp b o e =>
    hm.heap b o (fun hb => by rw [hw0 b hb] at e; cases e) (hkp b o e)
  have stay : ∀ {s s' : Shared} {L es ep t} {i : Nat}, Moved wr G s s' → (∀ b o, h0.get? b = some o → s.heap.get? b = some o) → KSet P w s.heap S L es ep t → GotM ks i L → KSet P w s'.heap S L es ep t := fun hm hkp hS g =>
    hS.keep (fun o e => hm.heap S o hSw e) fun p hp => isM_keep (hk p (g.sub p hp)) (keepM hm hkp)
  intro k
  induction k with
  | zero =>
    intro i s hk' hi hst hkp ⟨L, es, ep, t, hS, g⟩ hR
    have hin : i = n := by omega
    subst hin
    refine codeAny_builtin F.entry_set_update_loop ?_
    rw [Around.under_plainId F.plain_set_update_loop _]
    show wpAny _ A.in1 (pyNext (.ref I) >>= _) _ _ s
    refine wpAny_bind (W.done s _ _ hst fun s' hm => ?_)
    show wpAny _ A.in1 (ret Value.none) _ _ s'
    exact wpAny_pure (hR s' L es ep t (hm.mono hsub) (stay hm hkp hS g) g (keepM hm hkp))
  | succ k ih =>
    intro i s hk' hi hst hkp ⟨L, es, ep, t, hS, g⟩ hR
    have hlt : i < n := by omega
    refine codeAny_builtin F.entry_set_update_loop ?_
    rw [Around.under_plainId F.plain_set_update_loop _]
    show wpAny _ A.in1 (pyNext (.ref I) >>= _) _ _ s
    refine wpAny_bind (W.item i s _ _ hlt hst fun v s' hP hst' hm => ?_)
    obtain ⟨p, hp, rfl⟩ := hval i v hP
    have hmem : p ∈ ks := List.mem_of_getElem? hp
    have hkp' := keepM hm hkp
    have hS' := stay hm hkp hS g
    have hx : IsM P w s'.heap p.2 p.1 := isM_keep (hk p hmem) hkp'
    show wpAny _ A.in1 (holding [Value.ref p.1] (setAdd S (.ref p.1)) >>= _) _ _ s'
    refine wpAny_bind (wpAny_holding ?_)
    unfold setAdd
    refine wpAny_holding ?_
    refine wpAny_bind (wpAny_pyHash_tuple hu hx ?_)
    refine ks_add (s := { s' with toks := s'.toks + (p.2.length + 1) }) hS' hx hu (fun hnew => ?_) fun b h' L' es' ep' t' hsb hS2 c1 c2 => ?_
    · have q := nodup_le (p.2 :: L.map (·.2)) D (List.nodup_cons.mpr ⟨hnew, hS'.nd⟩) fun y hy => by
        rcases List.mem_cons.mp hy with e | hy
        · rw [e]; exact hkD p hmem
        · obtain ⟨q, hq, rfl⟩ := List.mem_map.mp hy
          exact hkD q (g.sub q hq)
      rw [List.length_cons, List.length_map] at q
      omega
    have g' : GotM ks (i + 1) L' := by
      have tk : ks.take (i + 1) = ks.take i ++ [p] := take_next hp
      by_cases c : p.2 ∈ L.map (·.2)
      · rw [c1 c]
        refine ⟨g.sub, fun q hq => ?_⟩
        rw [tk] at hq
        rcases List.mem_append.mp hq with z | z
        · exact g.all q z
        · rw [List.mem_singleton.mp z]; exact c
      · have pm := c2 c
        refine ⟨fun q hq => ?_, fun q hq => ?_⟩
        · rcases List.mem_cons.mp (pm.mem_iff.mp hq) with e | z
          · rw [e]; exact hmem
          · exact g.sub q z
        · rw [(pm.map (·.2)).mem_iff, List.map_cons]
          rw [tk] at hq
          rcases List.mem_append.mp hq with z | z
          · exact List.mem_cons_of_mem _ (g.all q z)
          · rw [List.mem_singleton.mp z]; exact List.mem_cons_self
    have hkp2 : ∀ b o, h0.get? b = some o → h'.get? b = some o := fun b o e => (hsb.2 b (fun z => by rw [z, hS0] at e; cases e)).trans (hkp' b o e)
    refine wpAny_pure ⟨plainId_quiet F.plain_set_update_loop _, ih (i + 1) _ (by omega) hlt (W.frame _ s' _ _ hst' (Nat.le_add_right _ _) fun b hb o e => ?_) hkp2 ⟨L', es', ep', t', hS2, g'⟩ fun s'' L2 es2 ep2 t2 hm'' hS'' g'' hkp'' => ?_⟩
    · rw [hsb.2 b (fun h : b = S => hSf (by rw [← h]; exact hb))]; exact e
    · refine hR s'' L2 es2 ep2 t2 (Moved.trans W.gtrans ((hm.mono hsub).then_heap (Nat.le_add_right _ _) fun b o hb e => ?_) hm'') hS'' g'' hkp''
      rw [hsb.2 b (fun h : b = S => hb (by rw [h]; exact List.mem_cons_self))]; exact e
abbrev set0 (w : PySem.World) : Obj := { cls := .type "set", dict := none, data := .set #[] 0 (.fresh 0 0 (!w.params.followText "set-order")) }
abbrev it0 (l : Addr) : Obj := { cls := .type "list_iterator", data := .fields #[.ref l, .int 0 0] }
/-- set(xs) -/
theorem ks_call {l : Addr} {items : Array Value} (ks : List (Addr × List L2.Key)) (D : List (List L2.Key)) (hD : D.length ≤ 4) (hkD : ∀ p ∈ ks, p.2 ∈ D) {Q : Value → Shared → Prop} (hh : A.handled = none) (hl : s.heap.IsList l items) (hit : items.toList = ks.map fun p => Value.ref p.1)
    (hk : ∀ p ∈ ks, IsM P w s.heap p.2 p.1) (hu : A.units + 3 < cLine)
    (h : ∀ (h' : Heap) (tk : Nat) L es ep t, KSet P w h' s.heap.objs.size L es ep t → GotM ks ks.length L → (∀ b o, s.heap.get? b = some o → h'.get? b = some o) → Q (.ref s.heap.objs.size) { s with heap := h', toks := tk }) :
    wpAny (model P w) A (call (.type "set") [.ref l]) Q E s := by
  have hisz : items.size = ks.length := by
    have q := congrArg List.length hit
    rwa [Array.length_toList, List.length_map] at q
  have hS : (s.heap.push (set0 w)).get? s.heap.objs.size = some (set0 w) := Heap.get?_push_size _ rfl
  have hT : Shared.TypeIs { s with heap := s.heap.push (set0 w) } (.ref s.heap.objs.size) "set" := ⟨_, hS, rfl⟩
  have hz1 : (s.heap.push (set0 w)).objs.size = s.heap.objs.size + 1 := Heap.size_push ..
  have hlS : l < s.heap.objs.size := by obtain ⟨o, e, _⟩ := hl; exact Heap.lt_size e
  have hl1 : (s.heap.push (set0 w)).IsList l items := hl.at fun o e => Heap.get?_push_of_some _ e
  have none_of : ∀ b, s.heap.objs.size ≤ b → s.heap.get? b = none := fun b hb => Heap.get?_none_of_le hb
  have hval : ∀ (i : Nat) (v : Value), items[i]? = some v → ∃ p, ks[i]? = some p ∧ v = .ref p.1 := fun i v hv => by
    have q : items.toList[i]? = some v := by rw [Array.getElem?_toList]; exact hv
    rw [hit, List.getElem?_map] at q
    cases hq : ks[i]? with
    | none => rw [hq] at q; cases q
    | some p => rw [hq] at q; exact ⟨p, rfl, (Option.some.inj q).symm⟩
  have hneI : l ≠ (s.heap.push (set0 w)).objs.size := by rw [hz1]; exact Nat.ne_of_lt (Nat.lt_succ_of_lt hlS)
  have hSf : s.heap.objs.size ∉ [(s.heap.push (set0 w)).objs.size, l] := by
    rw [hz1]
    simp only [List.mem_cons, List.mem_singleton, List.not_mem_nil, or_false, not_or]
    exact ⟨Nat.ne_of_lt (Nat.lt_succ_self _), Nat.ne_of_gt hlS⟩
  have hh3 : A.in1.in1.in1.handled = none := by simp [hh]
  -- the loop
  have loop : codeAny (model P w) A.in1.in1 (.builtin "set.update.loop" ⟨[.ref s.heap.objs.size, .ref (s.heap.push (set0 w)).objs.size], []⟩)
      (fun r s₂ => r = .ok (.ret .none) ∧ ∃ h' tk L es ep t, s₂ = { s with heap := h', toks := tk } ∧ KSet P w h' s.heap.objs.size L es ep t ∧ GotM ks ks.length L ∧ ∀ b o, s.heap.get? b = some o → h'.get? b = some o) { s with heap := (s.heap.push (set0 w)).push (it0 l) } := by
    refine ks_update ((Walks.list hh3 _ l hneI items).toS) s.heap.objs.size hSf ks D hD hkD hisz hval s.heap hk (none_of _ (Nat.le_refl _)) (fun b hb => none_of b (by rw [List.mem_singleton.mp hb, hz1]; exact Nat.le_succ _)) hu (items.size - 0) 0 _ (by omega) (Nat.zero_le _)
      ⟨⟨_, Heap.get?_push_size _ rfl, rfl, rfl⟩, (hl1.push _)⟩ (fun b o e => Heap.get?_push_of_some _ (Heap.get?_push_of_some _ e)) ⟨[], #[], 0, _, kset_fresh (Heap.get?_push_of_some _ hS), ⟨fun p hp => (by cases hp), fun p hp => by simp at hp⟩⟩ ?_
    intro s' L es ep t hm hS' g' hkp
    obtain ⟨h', g2, d', tk', os'⟩ := s'
    have eg : g2 = s.gens := hm.gens
    have ed : d' = s.drawn := hm.drawn
    have eo : os' = s.os := hm.os
    subst eg; subst ed; subst eo
    rw [hisz] at g'
    exact ⟨rfl, h', tk', L, es, ep, t, rfl, hS', g', hkp⟩
  obtain ⟨c, tl, hmro⟩ := F.called_set.mro
  have hmade := F.called_set.made
  have hsub := F.called_set.sub
  refine wpAny_call (codeAny_of_tree ?_)
  show wpAny _ _ (callAny (.type "set") _) _ _ _
  refine wpAny_pure ⟨Code.quiet_builtin _ (by decide +kernel), codeAny_builtin F.entry_type_call ?_⟩
  rw [Around.under_plain (weight_type_call_type "set" [.ref l] []) rfl]
  have h1 := F.called_set.notType
  have h2 := F.called_set.canCreate
  have hct := F.typeCall_set_1 (.ref l)
  repeat (any_goals (first | assumption | wp_step))
  refine codeAny_mono (code_set_led1 (.ref l) (E := E) (Q₁ := fun obj s₁ => obj = .ref s.heap.objs.size ∧ s₁ = { s with heap := s.heap.push (set0 w) }) ⟨rfl, rfl⟩) fun r s₁ hr => ?_
  cases r with
  | error e => exact hr
  | ok fl =>
    cases fl with
    | ret obj =>
      obtain ⟨rfl, rfl⟩ := hr
      have hli := F.called_set.init.lookup
      have hbi := F.called_set.init.bind (.ref s.heap.objs.size)
      repeat (any_goals (first | assumption | wp_step))
      refine codeAny_mono (codeAny_call_builtin (R := wants (fun r s₂ => r = .none ∧ ∃ h' tk L es ep t, s₂ = { s with heap := h', toks := tk } ∧ KSet P w h' s.heap.objs.size L es ep t ∧ GotM ks ks.length L ∧ ∀ b o, s.heap.get? b = some o → h'.get? b = some o) E)
        F.called_set.init.plain F.entry_set_init (check_set_init_1 hT ?_)) fun r₂ s₂ hr₂ => ?_
      · obtain ⟨ol, hol, hcl, nl, hdl⟩ := id hl1
        obtain ⟨ocls, odict, odata, oslots⟩ := ol
        simp only at hcl hdl
        subst hcl; subst hdl
        have hsls := F.sub_list_set
        have hslf := F.sub_list_frozenset
        have hne : (Value.type "list" == Value.type "dict") = false := by decide
        unfold Builtin.«set.__init__» noKeywords Builtin.Frozenset.updateFrom
        generalize hPI : pyIter = PI
        wp_walk
        subst hPI
        refine wpAny_pyIter_list hl1 ?_
        refine wpAny_bind (wpAny_runValue ?_)
        refine codeAny_mono loop fun r s' hr => ?_
        obtain ⟨rfl, h', tk, L, es, ep, t, rfl, hS', g', hkp⟩ := hr
        show wpAny _ _ _ _ _ _
        refine wpAny_pure ?_
        show wpAny _ _ (ret Value.none) _ _ _
        exact wpAny_pure ⟨rfl, h', tk, L, es, ep, t, rfl, hS', g', hkp⟩
      · cases r₂ with
        | error e => exact hr₂
        | ok fl₂ =>
          cases fl₂ with
          | ret r =>
            obtain ⟨rfl, h', tk, L, es, ep, t, rfl, hS', g', hk'⟩ := hr₂
            repeat (any_goals (first | assumption | wp_step))
            exact h _ _ _ _ _ _ hS' g' hk'
          | _ => exact hr₂.elim
    | _ => exact hr.elim
end
end Sly

set_option Elab.async false
set_option linter.all false
set_option maxRecDepth 100000
set_option maxHeartbeats 4000000
/-! The layer's rules: set(list of sorts), sorted(set of sorts). -/
namespace Sly
open PySem PySem.Spec PyProof.Rows L2
open PySem.W (Datum DatumOrd Tup T3 Holds HoldAll EachIs dataLe dataLt AllAlike Sortable TotalLe)
/-- the set at a, without its tuples -/
def SetM0 (P : Program) (w : PySem.World) (a : Addr) (L : List (Addr × List L2.Key)) (h : Heap) : Prop :=
  ∃ (es : Array (Int × Value)) (ep : Nat) (t : SetTable), (∃ o, h.get? a = some o ∧ o.ExactSet ∧ o.data = .set es ep t) ∧ es.toList = (L.map fun p => (mkHash P w p.2, Value.ref p.1)) ∧ TabOk t (L.map fun p => mkHash P w p.2) ∧ (L.map (·.2)).Nodup ∧
    (w.params.followText "set-order" = true ∨ t.led = true) ∧ t.mask = 7 ∧ L.length ≤ 4
def SetM (P : Program) (w : PySem.World) (a : Addr) (L : List (Addr × List L2.Key)) : HO := .ext fun h => SetM0 P w a L h
theorem setM_new {P : Program} {w : PySem.World} {H : Hp} {h : Heap} {a : Addr} {L : List (Addr × List L2.Key)} (R : SetM0 P w a L h) : ObjOk P w H h a (SetM P w a L) := by
  have ⟨es, ep, t, ⟨o, ho, r⟩, q⟩ := R
  refine ⟨R, ⟨o, ho⟩, fun h1 h2 p k => ?_⟩
  have ⟨es', ep', t', ⟨o', ho', r'⟩, q'⟩ := (show SetM0 P w a L h1 from p)
  exact ⟨es', ep', t', ⟨o', k o' ho', r'⟩, q'⟩
def unkey : List L2.Key → Srt
  | [.inr s] => ⟨s, none⟩
  | [.inr s, .inl n] => ⟨s, some n⟩
  | _ => ⟨"true", none⟩
theorem unkey_key : ∀ x : Srt, unkey x.key = x
  | ⟨s, none⟩ => rfl
  | ⟨s, some n⟩ => rfl
theorem items_keys {P : Program} {w : PySem.World} : ∀ {k : List L2.Key} {us : List Value}, Vals (k.map kV) us → ItemsAre (mixKind P w) k us
  | [], _, .nil => .nil
  | n :: k, _, .cons r t => .cons (kV_is r) (items_keys t)
theorem isM_of {X : Cx} {pins : List (Addr × Obj)} {σ : L2.St} {H : Hp} {s : Shared} {b : Addr} {x : Srt} (I : Inv X pins σ H s) (h : Ho H (.ref b) x) : IsM X.prog X.w s.heap x.key b := by
  obtain ⟨a, vs, e, ha, rfl⟩ := ho_srt h
  cases e
  obtain ⟨its, r, ⟨o, ho, hc, n, hd⟩, _⟩ := I.tuple (SqT.of (K := X.K) ha)
  exact ⟨o, its.toArray, n, ho, hc, hd, by simpa using items_keys r⟩
/-- the items of a list of sorts, as addresses -/
theorem srts_addrs {H : Hp} : ∀ {vs : List V} {xs : List Srt}, HoA H vs xs → ∃ as : List Addr, as.length = xs.length ∧ vs = as.map V.ref ∧ ∀ (i : Nat) (a : Addr) (x : Srt), as[i]? = some a → xs[i]? = some x → Ho H (.ref a) x
  | vs, [], h => ⟨[], rfl, hoA_nil h, fun i a x e => by simp at e⟩
  | vs, x :: r, h => by
    obtain ⟨v, ws, rfl, h1, h2⟩ := hoA_cons h
    obtain ⟨a, us, rfl, _⟩ := ho_srt h1
    obtain ⟨as, l1, rfl, h3⟩ := srts_addrs h2
    refine ⟨a :: as, by simp [l1], rfl, fun i b y e1 e2 => ?_⟩
    cases i with
    | zero =>
      have z1 : a = b := by simpa using e1
      have z2 : x = y := by simpa using e2
      subst z1 z2
      exact h1
    | succ i => exact h3 i b y (by simpa using e1) (by simpa using e2)
theorem vals_ref_list : ∀ {as : List Addr} {us : List Value}, Vals (as.map V.ref) us → us = as.map Value.ref
  | [], _, .nil => rfl
  | a :: r, _, .cons h t => by
    cases h
    rw [vals_ref_list t]
    rfl
def rSetM (P : Program) (w : PySem.World) : List V → Hp → VK → Prop := fun vs H Q => ∃ (l : Addr) (xs D : List Srt), vs = [.ref l] ∧ Ls H l xs ∧ D.length ≤ 4 ∧ (∀ x ∈ xs, x ∈ D) ∧
  ∀ a H' (us : List (Addr × Srt)), Same H H' → H' a = some (SetM P w a (us.map fun p => (p.1, p.2.key))) → (∀ p ∈ us, Ho H' (.ref p.1) p.2) → (us.map (·.2)).Nodup → (∀ x, x ∈ us.map (·.2) ↔ x ∈ xs) → Q (.ref a) H'
theorem cr_setM {X : Cx} (hc : X.calm = true) (hu : X.A.units + 64 < cLine) : CallR X (.type "set") (rSetM X.prog X.w) := by
  intro pins s σ H vs us Q I r h
  obtain ⟨l, xs, D, rfl, ⟨ws, hl, hws⟩, hD, hxD, q⟩ := h
  rw [Vals.ref1 r]
  obtain ⟨its, rv, pl, hz⟩ := I.list (SqL.of (K := X.K) hl)
  obtain ⟨as, las, rfl, has⟩ := srts_addrs hws
  have eits := vals_ref_list rv
  subst eits
  have hn : H s.heap.objs.size = none := I.hok.fresh (Nat.le_refl _)
  let ks : List (Addr × List L2.Key) := as.zip (xs.map Srt.key)
  have hkl : ks.length = as.length := by
    show (as.zip (xs.map Srt.key)).length = _
    rw [List.length_zip, List.length_map, las, Nat.min_self]
  have hks : ∀ p ∈ ks, ∃ x ∈ xs, p.2 = x.key ∧ Ho H (.ref p.1) x := fun p hp => by
    obtain ⟨i, hi⟩ := List.mem_iff_getElem?.mp hp
    have hz := List.getElem?_zip_eq_some.mp (show (as.zip (xs.map Srt.key))[i]? = some (p.1, p.2) from hi)
    obtain ⟨z1, z2⟩ := hz
    rw [List.getElem?_map] at z2
    cases ex : xs[i]? with
    | none => rw [ex] at z2; cases z2
    | some x =>
      rw [ex] at z2
      exact ⟨x, List.mem_of_getElem? ex, (Option.some.inj z2).symm, has i p.1 x z1 ex⟩
  have hks2 : ∀ x ∈ xs, ∃ p ∈ ks, p.2 = x.key := fun x hx => by
    obtain ⟨i, hi⟩ := List.mem_iff_getElem?.mp hx
    have il := (List.getElem?_eq_some_iff.mp hi).1
    have ea : as[i]? = some (as[i]'(by omega)) := List.getElem?_eq_getElem _
    refine ⟨(as[i]'(by omega), x.key), List.mem_of_getElem? (i := i) ?_, rfl⟩
    exact List.getElem?_zip_eq_some.mpr ⟨ea, by rw [List.getElem?_map, hi]; rfl⟩
  have refs : (as.map Value.ref) = ks.map fun p => Value.ref p.1 := by
    show _ = (as.zip (xs.map Srt.key)).map fun p => Value.ref p.1
    rw [show (fun p : Addr × List L2.Key => Value.ref p.1) = Value.ref ∘ Prod.fst from rfl, ← List.map_map, List.map_fst_zip (by rw [List.length_map, las]; exact Nat.le_refl _)]
  refine ks_call (P := X.prog) (w := X.w) ks (D.map Srt.key) (by rw [List.length_map]; exact hD) (fun p hp => ?_) (I.ok.hd hc) pl.isList (by rw [← refs]) (fun p hp => ?_) (by omega) fun h' tk L es ep t R g k => ?_
  · obtain ⟨x, hx, e, _⟩ := hks p hp
    rw [e]
    exact List.mem_map_of_mem (hxD x hx)
  · obtain ⟨x, hx, e, ho⟩ := hks p hp
    rw [e]
    exact isM_of I ho
  · have hL : ∀ p ∈ L, ∃ x ∈ xs, p.2 = x.key ∧ Ho H (.ref p.1) x := fun p hp => hks p (g.sub p hp)
    have eL : (L.map fun p => (p.1, unkey p.2)).map (fun p => (p.1, p.2.key)) = L := by
      rw [List.map_map]
      refine (List.map_congr_left fun p hp => ?_).trans (List.map_id L)
      obtain ⟨x, _, e, _⟩ := hL p hp
      show (p.1, (unkey p.2).key) = p
      rw [e, unkey_key, ← e]
    have fr := I.laid (t' := tk) (o := SetM X.prog X.w s.heap.objs.size L) k (Nat.le_refl _) (setM_new ⟨es, ep, t, R.ob, R.rows, R.tab, R.nd, R.led, R.mask, R.few⟩)
    refine ⟨.ref s.heap.objs.size, _, fr, rfl, q _ _ (L.map fun p => (p.1, unkey p.2)) (Same.new hn) (by rw [eL]; exact upd_same) (fun p hp => ?_) ?_ fun x => ⟨fun hx => ?_, fun hx => ?_⟩⟩
    · obtain ⟨p0, hp0, rfl⟩ := List.mem_map.mp hp
      obtain ⟨x, _, e, ho⟩ := hL p0 hp0
      show Ho _ (.ref p0.1) (unkey p0.2)
      rw [e, unkey_key]
      exact ho.up (Same.new hn)
    · rw [List.map_map]
      have := R.nd
      rw [List.Nodup, List.pairwise_map] at this ⊢
      refine this.imp_of_mem fun {a b} ha hb hne e => hne ?_
      obtain ⟨x, _, e1, _⟩ := hL a ha
      obtain ⟨y, _, e2, _⟩ := hL b hb
      have e' : unkey a.2 = unkey b.2 := e
      rw [e1, e2, unkey_key, unkey_key] at e'
      rw [e1, e2, e']
    · obtain ⟨p, hp, rfl⟩ := List.mem_map.mp hx
      obtain ⟨p0, hp0, rfl⟩ := List.mem_map.mp hp
      obtain ⟨x, hx, e, _⟩ := hL p0 hp0
      show unkey p0.2 ∈ xs
      rw [e, unkey_key]
      exact hx
    · obtain ⟨p, hp, e⟩ := hks2 x hx
      have := g.all p (by rw [List.take_length]; exact hp)
      obtain ⟨p0, hp0, e0⟩ := List.mem_map.mp this
      refine List.mem_map.mpr ⟨(p0.1, unkey p0.2), List.mem_map.mpr ⟨p0, hp0, rfl⟩, ?_⟩
      show unkey p0.2 = x
      rw [e0, e, unkey_key]
theorem perm_lift {α β : Type} {f : α → β} {l1 l2 : List β} (h : l1.Perm l2) : ∀ us : List α, l2 = us.map f → ∃ us' : List α, us'.Perm us ∧ us'.map f = l1 := by
  induction h with
  | nil =>
    intro us e
    exact ⟨[], by rw [List.map_eq_nil_iff.mp e.symm], rfl⟩
  | cons x _ ih =>
    intro us e
    cases us with
    | nil => cases e
    | cons u r =>
      rw [List.map_cons] at e
      injection e with e1 e2
      obtain ⟨r', p, e3⟩ := ih r e2
      exact ⟨u :: r', p.cons u, by rw [List.map_cons, e3, e1]⟩
  | swap x y l =>
    intro us e
    cases us with
    | nil => cases e
    | cons u r =>
      cases r with
      | nil => rw [List.map_cons] at e; injection e with _ e; cases e
      | cons v r =>
        rw [List.map_cons, List.map_cons] at e
        injection e with e1 e2
        injection e2 with e2 e3
        exact ⟨v :: u :: r, List.Perm.swap u v r, by rw [List.map_cons, List.map_cons, e1, e2, e3]⟩
  | trans _ _ ih1 ih2 =>
    intro us e
    obtain ⟨u2, p2, e2⟩ := ih2 us e
    obtain ⟨u1, p1, e1⟩ := ih1 u2 e2.symm
    exact ⟨u1, p1.trans p2, e1⟩
def rSortedM (P : Program) (w : PySem.World) : List V → Hp → VK → Prop := fun vs H Q => ∃ (a : Addr) (us : List (Addr × Srt)), vs = [.ref a] ∧ H a = some (SetM P w a (us.map fun p => (p.1, p.2.key))) ∧ (∀ p ∈ us, Ho H (.ref p.1) p.2) ∧
  ∀ p H' (M : List Srt), Same H H' → M.Perm (us.map (·.2)) → Ls H' p (M.mergeSort (dataLe false Datum.toD)) → Q (.ref p) H'
theorem cr_sortedM {X : Cx} (hcalm : X.calm = true) (hu : X.A.units + 64 < cLine) : CallR X (.builtin "sorted") (rSortedM X.prog X.w) := by
  intro pins s σ H xs vs0 Q I r h
  obtain ⟨a, us, rfl, ha, hus, q⟩ := h
  rw [Vals.ref1 r]
  obtain ⟨es, ep, t, ⟨o, ho, hex, hd⟩, hrows, T, nd, led, hm, hfew⟩ := (show SetM0 X.prog X.w a (us.map fun p => (p.1, p.2.key)) s.heap from (I.hok a _ ha).1)
  rw [List.length_map] at hfew
  have hes : es.size = us.length := by
    have h := congrArg List.length hrows
    rwa [Array.length_toList, List.length_map, List.length_map] at h
  have hfits : t.fits es.size = true := by
    have h1 := T.sz
    rw [List.length_map, List.length_map] at h1
    unfold SetTable.fits SetTable.fill
    rw [T.dm, Bool.and_eq_true, beq_iff_eq, decide_eq_true_eq]
    show t.place.size = es.size ∧ t.place.size + 0 ≤ t.mask
    omega
  refine Calls.call_function_entry PyProof.Rows.kind_sorted PyProof.Rows.plain_sorted PyProof.Rows.entry_sorted (PyProof.Rows.args_sorted1 _) ?_
  unfold Builtin.«sorted»
  refine wpAny_bind (m := checkCount "sorted" 1 1 _) (wpAny_pure ?_)
  refine wpAny_bind (collect_set (A := X.A.in1) (I.ok.hd hcalm) ⟨o, ho, hex.1, hd⟩ hfits (by unfold scanBound; omega) T.ris led fun s1 vs k1 hz g1 o1 pm => ?_)
  have erefs : es.toList.map (·.2) = us.map fun p => Value.ref p.1 := by
    rw [hrows, List.map_map, List.map_map]
    rfl
  rw [erefs] at pm
  obtain ⟨us', pus, evs⟩ := perm_lift (f := fun p : Addr × Srt => Value.ref p.1) pm us rfl
  subst evs
  have hlen : (us'.map fun p => Value.ref p.1).length = us.length := by rw [List.length_map, pus.length_eq]
  have hok : ∀ us' : List (Addr × Srt), (∀ p ∈ us', Ho H (.ref p.1) p.2) → EachIs (fun u (b : Srt) => ∃ v, RelV v u ∧ Ho H v b) (us'.map fun p => Value.ref p.1) (us'.map (·.2)) := by
    intro l
    induction l with
    | nil => intro _; exact .nil
    | cons p r ih => exact fun h => .cons ⟨.ref p.1, rfl, h p List.mem_cons_self⟩ (ih fun q hq => h q (List.mem_cons_of_mem _ hq))
  have ee := hok us' fun p hp => hus p (pus.mem_iff.mp hp)
  refine wpAny_bind (wpAny_newList ?_ (by rw [hlen]; exact small_le (by omega)))
  have hoL : (s1.heap.push (seqObj "list" (us'.map fun p => Value.ref p.1).toArray 0)).get? s1.heap.objs.size = some (seqObj "list" (us'.map fun p => Value.ref p.1).toArray 0) := Heap.get?_push_size _ rfl
  have kp : ∀ b o, s.heap.get? b = some o → (s1.heap.push (seqObj "list" (us'.map fun p => Value.ref p.1).toArray 0)).get? b = some o := fun b o e => Heap.get?_push_of_some _ (k1 b o e)
  have I2 : Inv X pins σ H { s with heap := s1.heap.push (seqObj "list" (us'.map fun p => Value.ref p.1).toArray 0), toks := s1.toks } := I.kept (t' := s1.toks) kp
  refine wpAny_bind (wpAny_holding (PySem.W.list_sort_data (enc := Datum.toD) (s := { s1 with heap := s1.heap.push (seqObj "list" (us'.map fun p => Value.ref p.1).toArray 0) }) hoL ee (ee.mono fun v b hx => Exists.elim hx fun x hx => ?_) (srt_alike _) (srt_sortable _) (small_le (by rw [List.length_map, pus.length_eq]; omega)) (fun b _ => ?_) fun out ho' eo => ?_))
  · obtain ⟨as, hr⟩ := holds_of I2 (Ho.dp (K := X.K) hx.2) hx.1
    have e0 := reads_srt hr
    subst e0
    exact ⟨[], hr, by simp⟩
  · have := Datum.depth_le b
    have e1 : Datum.depth Srt = 1 := rfl
    rw [e1] at this
    show X.A.in1.units + 1 + _ < _
    have e2 : X.A.in1.units = X.A.units + 1 := rfl
    omega
  · obtain ⟨ws, rw', hw⟩ := each_split eo
    obtain ⟨e', he'⟩ := PyProof.Rows.sortedHeap_at (vs := us'.map fun p => Value.ref p.1) (out := out.toArray) hoL
    have fr : H s1.heap.objs.size = none := I.hok.fresh hz
    have hlen2 : ws.length ≤ sizeLine := by
      rw [hw.length, List.length_mergeSort, List.length_map, pus.length_eq]
      exact small_le (by omega)
    have kp2 : ∀ b o, s.heap.get? b = some o → (PyProof.Rows.sortedHeap (s1.heap.push (seqObj "list" (us'.map fun p => Value.ref p.1).toArray 0)) s1.heap.objs.size (us'.map fun p => Value.ref p.1) out.toArray).get? b = some o := fun b u e => by
      have hb : b < s1.heap.objs.size := Nat.lt_of_lt_of_le (Heap.lt_size e) hz
      rw [PyProof.Rows.sortedHeap_old (Nat.ne_of_lt hb) (by rw [size_push']; exact Nat.lt_succ_of_lt hb)]
      exact kp b u e
    have J : Inv X pins σ (upd H s1.heap.objs.size (.lst ws)) { s with heap := PyProof.Rows.sortedHeap (s1.heap.push (seqObj "list" (us'.map fun p => Value.ref p.1).toArray 0)) s1.heap.objs.size (us'.map fun p => Value.ref p.1) out.toArray, gens := s1.gens, drawn := s1.drawn, toks := s1.toks } :=
      I.call (ch := []) (Un.laid kp2 hz fr) (I.hok.laid kp2 hz (show ObjOk X.prog X.w _ _ _ (.lst ws) from ⟨hlen2, out, e', rw', he'⟩)) (by rw [g1]; exact I.bare) (fun _ z => nomatch z)
    refine wpAny_pure ⟨_, rfl, .ref s1.heap.objs.size, _, ?_, rfl, q _ _ (us'.map (·.2)) (Same.new fr) (pus.map _) (Ls.new fr hw)⟩
    have es : ({ s1 with heap := PyProof.Rows.sortedHeap (s1.heap.push (seqObj "list" (us'.map fun p => Value.ref p.1).toArray 0)) s1.heap.objs.size (us'.map fun p => Value.ref p.1) out.toArray } : Shared) = { s with heap := PyProof.Rows.sortedHeap (s1.heap.push (seqObj "list" (us'.map fun p => Value.ref p.1).toArray 0)) s1.heap.objs.size (us'.map fun p => Value.ref p.1) out.toArray, gens := s1.gens, drawn := s1.drawn, toks := s1.toks } := by
      cases s1
      cases s
      cases o1
      rfl
    rw [es]
    exact J
end Sly

set_option Elab.async false
set_option linter.all false
set_option maxRecDepth 100000
set_option maxHeartbeats 4000000
/-! set(list of ints), few distinct ones. -/
namespace Sly
open PySem PySem.Spec PyProof.Rows L2
section
variable {P : Program} {w : PySem.World} {A : Around} {E : Value → Shared → Prop} {s : Shared}
theorem setR_few {h : Heap} {a : Addr} {S : Int → Bool} {n : Nat} (R : SetR w h a S n) (D : List Int) (hD : ∀ k, S k = true → k ∈ D) : n ≤ D.length := by
  obtain ⟨o, es, ep, t, ho, hex, hd, g, nd, hm, hb, hf, hn, hr, hl⟩ := R
  have q := nodup_le (es.toList.map keyOf) D nd fun k hk => hD k ((hm k).mpr hk)
  rwa [List.length_map, Array.length_toList, hn] at q
theorem ki_update {I : Addr} {fp wr : List Addr} {G : Array GenState → Array GenState → Prop} {n : Nat} {Pv : Nat → Value → Prop} {St : Nat → Shared → Prop} {R : Result → Shared → Prop}
    (W : WalksS P w A.in1 I fp wr G n Pv St) (S : Addr) (hSf : S ∉ fp) (ns D : List Int) (hD : D.length ≤ 60) (hkD : ∀ k ∈ ns, k ∈ D) (hn : n = ns.length) (hval : ∀ i v, Pv i v → ∃ k t, ns[i]? = some k ∧ v = .int k t) :
    ∀ (k i : Nat) (s : Shared), n - i = k → i ≤ n → St i s → (∃ c, SetR w s.heap S (fun j => decide (j ∈ ns.take i)) c) →
      (∀ s' c, Moved (S :: wr) G s s' → SetR w s'.heap S (fun j => decide (j ∈ ns)) c → R (.ok (.ret .none)) s') →
      codeAny (model P w) A (.builtin "set.update.loop" ⟨[.ref S, .ref I], []⟩) R s := by
  have hSw : S ∉ wr := fun h => hSf (W.sub _ h)
  have hsub : ∀ b ∈ wr, b ∈ S :: wr := fun b hb => List.mem_cons_of_mem _ hb
  intro k
  induction k with
  | zero =>
    intro i s hk' hi hst ⟨c, hS⟩ hR
    have hin : i = n := by omega
    subst hin
    refine codeAny_builtin F.entry_set_update_loop ?_
    rw [Around.under_plainId F.plain_set_update_loop _]
    show wpAny _ A.in1 (pyNext (.ref I) >>= _) _ _ s
    refine wpAny_bind (W.done s _ _ hst fun s' hm => ?_)
    show wpAny _ A.in1 (ret Value.none) _ _ s'
    rw [List.take_of_length_le (by omega)] at hS
    exact wpAny_pure (hR s' c (hm.mono hsub) (hS.at fun o e => hm.heap S o hSw e))
  | succ k ih =>
    intro i s hk' hi hst ⟨c, hS⟩ hR
    have hlt : i < n := by omega
    refine codeAny_builtin F.entry_set_update_loop ?_
    rw [Around.under_plainId F.plain_set_update_loop _]
    show wpAny _ A.in1 (pyNext (.ref I) >>= _) _ _ s
    refine wpAny_bind (W.item i s _ _ hlt hst fun v s' hP hst' hm => ?_)
    obtain ⟨z, t, hz, rfl⟩ := hval i v hP
    have hS' : SetR w s'.heap S (fun j => decide (j ∈ ns.take i)) c := hS.at fun o e => hm.heap S o hSw e
    have hc : c ≤ D.length := setR_few hS' D fun j hj => hkD j (List.mem_of_mem_take (of_decide_eq_true hj))
    show wpAny _ A.in1 (holding [Value.int z t] (setAdd S (.int z t)) >>= _) _ _ s'
    refine wpAny_bind (wpAny_holding ?_)
    unfold setAdd
    refine wpAny_holding ?_
    refine wpAny_bind ((intKind P w).pyHash (k := z) (intKind_is _ _ _ _) ?_)
    refine setR_add_hashed (s := { s' with toks := s'.toks + 1 }) hS' (by unfold scanBound; omega) fun h' hsb hS2 => ?_
    have hS3 : SetR w h' S (fun j => decide (j ∈ ns.take (i + 1))) (if decide (z ∈ ns.take i) = true then c else c + 1) := hS2.congr fun j => by
      rw [List.take_add_one, hz]
      simp [List.mem_append]
    refine wpAny_pure ⟨plainId_quiet F.plain_set_update_loop _, ih (i + 1) _ (by omega) hlt (W.frame _ s' _ _ hst' (Nat.le_succ _) fun b hb o e => ?_) ⟨_, hS3⟩ fun s'' c2 hm'' hS'' => ?_⟩
    · rw [hsb.2 b (fun h : b = S => hSf (by rw [← h]; exact hb))]; exact e
    · refine hR s'' c2 (Moved.trans W.gtrans ((hm.mono hsub).then_heap (Nat.le_succ _) fun b o hb e => ?_) hm'') hS''
      rw [hsb.2 b (fun h : b = S => hb (by rw [h]; exact List.mem_cons_self))]; exact e
theorem ki_call {l : Addr} {items : Array Value} (ns D : List Int) (hD : D.length ≤ 60) (hkD : ∀ k ∈ ns, k ∈ D) {Q : Value → Shared → Prop} (hh : A.handled = none) (hl : s.heap.IsList l items) (hit : IntsAre items.toList ns)
    (h : ∀ (h' : Heap) (tk : Nat) c, SetR w h' s.heap.objs.size (fun j => decide (j ∈ ns)) c → c ≤ D.length → (∀ b o, s.heap.get? b = some o → h'.get? b = some o) → Q (.ref s.heap.objs.size) { s with heap := h', toks := tk }) :
    wpAny (model P w) A (call (.type "set") [.ref l]) Q E s := by
  have hisz : items.size = ns.length := by
    rw [← Array.length_toList]
    exact hit.length
  have hS : (s.heap.push (set0 w)).get? s.heap.objs.size = some (set0 w) := Heap.get?_push_size _ rfl
  have hT : Shared.TypeIs { s with heap := s.heap.push (set0 w) } (.ref s.heap.objs.size) "set" := ⟨_, hS, rfl⟩
  have hz1 : (s.heap.push (set0 w)).objs.size = s.heap.objs.size + 1 := Heap.size_push ..
  have hlS : l < s.heap.objs.size := by obtain ⟨o, e, _⟩ := hl; exact Heap.lt_size e
  have hl1 : (s.heap.push (set0 w)).IsList l items := hl.at fun o e => Heap.get?_push_of_some _ e
  have hval : ∀ (i : Nat) (v : Value), items[i]? = some v → ∃ k t, ns[i]? = some k ∧ v = .int k t := fun i v hv => by
    have il := (Array.getElem?_eq_some_iff.mp hv).1
    obtain ⟨t, e⟩ := PyProof.Rows.IntsAre.int_at hit i v (by rw [Array.getElem?_toList]; exact hv)
    have en : ns[i]? = some (ns[i]'(by omega)) := List.getElem?_eq_getElem _
    refine ⟨_, t, en, ?_⟩
    rw [e, List.getD_eq_getElem?_getD, en]
    rfl
  have hneI : l ≠ (s.heap.push (set0 w)).objs.size := by rw [hz1]; exact Nat.ne_of_lt (Nat.lt_succ_of_lt hlS)
  have hSf : s.heap.objs.size ∉ [(s.heap.push (set0 w)).objs.size, l] := by
    rw [hz1]
    simp only [List.mem_cons, List.mem_singleton, List.not_mem_nil, or_false, not_or]
    exact ⟨Nat.ne_of_lt (Nat.lt_succ_self _), Nat.ne_of_gt hlS⟩
  have hh3 : A.in1.in1.in1.handled = none := by simp [hh]
  have loop : codeAny (model P w) A.in1.in1 (.builtin "set.update.loop" ⟨[.ref s.heap.objs.size, .ref (s.heap.push (set0 w)).objs.size], []⟩)
      (fun r s₂ => r = .ok (.ret .none) ∧ ∃ h' tk c, s₂ = { s with heap := h', toks := tk } ∧ SetR w h' s.heap.objs.size (fun j => decide (j ∈ ns)) c ∧ ∀ b o, s.heap.get? b = some o → h'.get? b = some o) { s with heap := (s.heap.push (set0 w)).push (it0 l) } := by
    refine ki_update ((Walks.list hh3 _ l hneI items).toS) s.heap.objs.size hSf ns D hD hkD hisz hval (items.size - 0) 0 _ (by omega) (Nat.zero_le _)
      ⟨⟨_, Heap.get?_push_size _ rfl, rfl, rfl⟩, (hl1.push _)⟩ ⟨0, setR_new_at (Heap.get?_push_of_some _ hS)⟩ ?_
    intro s' c hm hS'
    obtain ⟨h', g2, d', tk', os'⟩ := s'
    have eg : g2 = s.gens := hm.gens
    have ed : d' = s.drawn := hm.drawn
    have eo : os' = s.os := hm.os
    subst eg; subst ed; subst eo
    refine ⟨rfl, h', tk', c, rfl, hS', fun b o e => ?_⟩
    have hb := Heap.lt_size e
    exact hm.heap b o (by
      rw [hz1]
      simp only [List.mem_cons, List.mem_singleton, List.not_mem_nil, or_false, not_or]
      exact ⟨Nat.ne_of_lt hb, Nat.ne_of_lt (Nat.lt_succ_of_lt hb)⟩) (Heap.get?_push_of_some _ (Heap.get?_push_of_some _ e))
  obtain ⟨c, tl, hmro⟩ := F.called_set.mro
  have hmade := F.called_set.made
  have hsub := F.called_set.sub
  refine wpAny_call (codeAny_of_tree ?_)
  show wpAny _ _ (callAny (.type "set") _) _ _ _
  refine wpAny_pure ⟨Code.quiet_builtin _ (by decide +kernel), codeAny_builtin F.entry_type_call ?_⟩
  rw [Around.under_plain (weight_type_call_type "set" [.ref l] []) rfl]
  have h1 := F.called_set.notType
  have h2 := F.called_set.canCreate
  have hct := F.typeCall_set_1 (.ref l)
  repeat (any_goals (first | assumption | wp_step))
  refine codeAny_mono (code_set_led1 (.ref l) (E := E) (Q₁ := fun obj s₁ => obj = .ref s.heap.objs.size ∧ s₁ = { s with heap := s.heap.push (set0 w) }) ⟨rfl, rfl⟩) fun r s₁ hr => ?_
  cases r with
  | error e => exact hr
  | ok fl =>
    cases fl with
    | ret obj =>
      obtain ⟨rfl, rfl⟩ := hr
      have hli := F.called_set.init.lookup
      have hbi := F.called_set.init.bind (.ref s.heap.objs.size)
      repeat (any_goals (first | assumption | wp_step))
      refine codeAny_mono (codeAny_call_builtin (R := wants (fun r s₂ => r = .none ∧ ∃ h' tk c, s₂ = { s with heap := h', toks := tk } ∧ SetR w h' s.heap.objs.size (fun j => decide (j ∈ ns)) c ∧ ∀ b o, s.heap.get? b = some o → h'.get? b = some o) E)
        F.called_set.init.plain F.entry_set_init (check_set_init_1 hT ?_)) fun r₂ s₂ hr₂ => ?_
      · obtain ⟨ol, hol, hcl, nl, hdl⟩ := id hl1
        obtain ⟨ocls, odict, odata, oslots⟩ := ol
        simp only at hcl hdl
        subst hcl; subst hdl
        have hsls := F.sub_list_set
        have hslf := F.sub_list_frozenset
        have hne : (Value.type "list" == Value.type "dict") = false := by decide
        unfold Builtin.«set.__init__» noKeywords Builtin.Frozenset.updateFrom
        generalize hPI : pyIter = PI
        wp_walk
        subst hPI
        refine wpAny_pyIter_list hl1 ?_
        refine wpAny_bind (wpAny_runValue ?_)
        refine codeAny_mono loop fun r s' hr => ?_
        obtain ⟨rfl, h', tk, c, rfl, hS', hkp⟩ := hr
        show wpAny _ _ _ _ _ _
        refine wpAny_pure ?_
        show wpAny _ _ (ret Value.none) _ _ _
        exact wpAny_pure ⟨rfl, h', tk, c, rfl, hS', hkp⟩
      · cases r₂ with
        | error e => exact hr₂
        | ok fl₂ =>
          cases fl₂ with
          | ret r =>
            obtain ⟨rfl, h', tk, c, rfl, hS', hk'⟩ := hr₂
            repeat (any_goals (first | assumption | wp_step))
            exact h _ _ _ hS' (setR_few hS' D fun j hj => hkD j (of_decide_eq_true hj)) hk'
          | _ => exact hr₂.elim
    | _ => exact hr.elim
end
open PySem.W (Datum DatumOrd Tup T3) in
def rSetIL (w : PySem.World) : List V → Hp → VK → Prop := fun vs H Q => ∃ (l : Addr) (ns D : List Int), vs = [.ref l] ∧ Ls H l ns ∧ D.length ≤ 60 ∧ (∀ x ∈ ns, x ∈ D) ∧
  ∀ a H' c, Same H H' → H' a = some (SetO w a (fun j => decide (j ∈ ns)) c) → c < 64 → Q (.ref a) H'
theorem cr_setIL {X : Cx} (hc : X.calm = true) : CallR X (.type "set") (rSetIL X.w) := by
  intro pins s σ H vs us Q I r h
  obtain ⟨l, ns, D, rfl, ⟨ws, hl, hws⟩, hD, hxD, q⟩ := h
  rw [Vals.ref1 r]
  have ei := hws.ints
  subst ei
  obtain ⟨its, rv, pl, hz⟩ := I.list (SqL.of (K := X.K) hl)
  have hn : H s.heap.objs.size = none := I.hok.fresh (Nat.le_refl _)
  refine ki_call (P := X.prog) (w := X.w) ns D hD hxD (I.ok.hd hc) pl.isList rv.ints fun h' tk c R hcD k => ?_
  exact ⟨.ref s.heap.objs.size, _, I.laid (t' := tk) (o := SetO X.w s.heap.objs.size (fun j => decide (j ∈ ns)) c) k (Nat.le_refl _) (setO_new R), rfl, q _ _ c (Same.new hn) upd_same (by omega)⟩
end Sly

set_option Elab.async false
set_option linter.all false
set_option maxRecDepth 100000
set_option maxHeartbeats 4000000
/-! The plain law. -/
namespace Sly
open PySem PySem.Spec PyProof.Rows L2
open PySem.W (Datum DatumOrd Tup T3 dataLe dataLt AllAlike Sortable TotalLe sameRank)
/-- what a world tells of a row behind others -/
def goT (h : Hse) (w : Wld) : List Weigh → List Weigh → List Int
  | _, [] => []
  | ahead, g :: r => answer h w ahead g :: goT h w (ahead ++ [g]) r
theorem tells_go (h : Hse) (w : Wld) (row : List Weigh) : tellsOf h w row = goT h w [] row := by
  have key : ∀ (r pre : List Weigh), (List.range r.length).filterMap (fun i => r[i]?.bind fun g => some (answer h w (pre ++ r.take i) g)) = goT h w pre r := by
    intro r
    induction r with
    | nil => intro pre; rfl
    | cons g r ih =>
      intro pre
      rw [List.length_cons, List.range_succ_eq_map, List.filterMap_cons, List.filterMap_map]
      have e0 : ((g :: r)[0]?.bind fun x => some (answer h w (pre ++ (g :: r).take 0) x)) = some (answer h w pre g) := by
        simp
      rw [e0]
      show answer h w pre g :: _ = _
      have e1 : (List.filterMap ((fun i => (g :: r)[i]?.bind fun x => some (answer h w (pre ++ (g :: r).take i) x)) ∘ Nat.succ) (List.range r.length)) = goT h w (pre ++ [g]) r := by
        rw [← ih (pre ++ [g])]
        refine congrArg (fun f => List.filterMap f (List.range r.length)) (funext fun i => ?_)
        show ((g :: r)[i + 1]?.bind fun x => some (answer h w (pre ++ (g :: r).take (i + 1)) x)) = _
        rw [List.getElem?_cons_succ, List.take_succ_cons, List.append_assoc]
        rfl
      rw [e1]
      rfl
  have := key row []
  simpa [tellsOf] using this
theorem goT_len (h : Hse) (w : Wld) : ∀ (r ahead : List Weigh), (goT h w ahead r).length = r.length
  | [], _ => rfl
  | g :: r, ahead => by
    show (goT h w (ahead ++ [g]) r).length + 1 = _
    rw [goT_len h w r, List.length_cons]
theorem goT_take (h : Hse) (w : Wld) : ∀ (n : Nat) (r ahead : List Weigh), goT h w ahead (r.take n) = (goT h w ahead r).take n
  | 0, r, ahead => by
    rw [List.take_zero, List.take_zero]
    rfl
  | n + 1, [], ahead => rfl
  | n + 1, g :: r, ahead => by
    show answer h w ahead g :: goT h w (ahead ++ [g]) (r.take n) = answer h w ahead g :: (goT h w (ahead ++ [g]) r).take n
    rw [goT_take h w n r]
theorem sgn_in (n : Int) : sgn n ∈ [(-1 : Int), 0, 1] := by
  unfold sgn
  split <;> split <;> simp <;> omega
theorem nsgn_in (n : Int) : 0 - sgn n ∈ [(-1 : Int), 0, 1] := by
  unfold sgn
  split <;> split <;> simp <;> omega
theorem answer_in (h : Hse) (w : Wld) (ahead : List Weigh) (g : Weigh) : answer h w ahead g ∈ [(-1 : Int), 0, 1] := by
  unfold answer ansBy
  have e0 : (0 : Int) ∈ [(-1 : Int), 0, 1] := by simp
  have e1 : echoOf h w (ownOf ahead g.a) ∈ [(-1 : Int), 0, 1] := by
    unfold echoOf
    split
    · exact sgn_in _
    · exact e0
  split
  · exact nsgn_in _
  split
  · exact sgn_in _
  split
  · by_cases z : (if outw h w g < 0 then -outw h w g else outw h w g) ≤ (sortAt h w g.a).arg.getD 0
    · rw [if_pos z]
      exact e0
    · rw [if_neg z]
      exact sgn_in _
  split
  · split
    · exact nsgn_in _
    · exact sgn_in _
  split
  · exact e1
  · exact sgn_in _
theorem goT_in (h : Hse) (w : Wld) : ∀ (r ahead : List Weigh), ∀ x ∈ goT h w ahead r, x ∈ [(-1 : Int), 0, 1]
  | [], _, x, hx => by cases hx
  | g :: r, ahead, x, hx => by
    rcases List.mem_cons.mp hx with e | e
    · rw [e]
      exact answer_in h w ahead g
    · exact goT_in h w r _ x e
/-- all rows of answers -/
def answersOf (n : Nat) : List (List Int) := allRows (List.replicate n [-1, 0, 1])
theorem answersOf_nodup (n : Nat) : (answersOf n).Nodup := by
  unfold answersOf
  rw [allRows_eq]
  have h := rows_sorted (α := Int) (List.replicate n [-1, 0, 1]) fun p hp => by
    rw [List.eq_of_mem_replicate hp]
    decide
  refine h.imp fun {a b} q e => ?_
  subst e
  have := ord_irrefl (α := Tup Int) (Tup.mk a)
  have q' : DatumOrd.lt (Tup.mk a) (Tup.mk a) = true := q
  rw [this] at q'
  cases q'
theorem answersOf_len (n : Nat) {a : List Int} (ha : a ∈ answersOf n) : a.length = n := by
  unfold answersOf at ha
  rw [allRows_eq] at ha
  rw [(mem_rowsF ha).1, List.length_replicate]
theorem tells_mem (h : Hse) (w : Wld) (row : List Weigh) : tellsOf h w row ∈ answersOf row.length := by
  unfold answersOf
  rw [allRows_eq, tells_go]
  refine rowsF_mem (by rw [goT_len, List.length_replicate]) fun i x p hx hp => ?_
  rw [List.eq_of_mem_replicate (List.mem_of_getElem? hp)]
  exact goT_in h w row [] x (List.mem_of_getElem? hx)
theorem fmap_congr {α β : Type} {f g : α → List β} : ∀ {l : List α}, (∀ x ∈ l, f x = g x) → l.flatMap f = l.flatMap g
  | [], _ => rfl
  | x :: r, h => by
    rw [List.flatMap_cons, List.flatMap_cons, h x List.mem_cons_self, fmap_congr fun y hy => h y (List.mem_cons_of_mem _ hy)]
/-- each item stands with just one of the keys -/
theorem split_perm {α κ : Type} [DecidableEq κ] (f : α → κ) : ∀ (keys : List κ) (l : List α), keys.Nodup → (∀ w ∈ l, f w ∈ keys) → (keys.flatMap fun k => l.filter fun w => decide (f w = k)).Perm l
  | [], l, _, h => by
    cases l with
    | nil => exact .nil
    | cons x r => exact absurd (h x List.mem_cons_self) (by simp)
  | k :: ks, l, nd, h => by
    rw [List.nodup_cons] at nd
    rw [List.flatMap_cons]
    have e : (ks.flatMap fun k' => l.filter fun w => decide (f w = k')) = ks.flatMap fun k' => (l.filter fun w => !decide (f w = k)).filter fun w => decide (f w = k') := by
      refine fmap_congr fun k' hk' => ?_
      rw [List.filter_filter]
      refine List.filter_congr fun w _ => ?_
      by_cases z : f w = k'
      · have ne : ¬ f w = k := fun y => nd.1 (by rw [← y, z]; exact hk')
        simp [z]
        exact fun y => ne (z.trans y)
      · simp [z]
    rw [e]
    have ih := split_perm f ks (l.filter fun w => !decide (f w = k)) nd.2 fun w hw => by
      obtain ⟨h1, h2⟩ := List.mem_filter.mp hw
      rcases List.mem_cons.mp (h w h1) with z | z
      · simp [z] at h2
      · exact z
    exact (List.Perm.append_left _ ih).trans (List.filter_append_perm (fun w => decide (f w = k)) l)
theorem giving_zip (h : Hse) (row : List Weigh) {ans : List Int} (hl : ans.length = row.length) : givingOf h (row.zip ans) = (worldsOf h).filter fun w => decide (tellsOf h w row = ans) := by
  unfold givingOf
  have e1 : (row.zip ans).map (fun x => x.1) = row := List.map_fst_zip (by omega)
  have e2 : (row.zip ans).map (fun x => x.2) = ans := List.map_snd_zip (by omega)
  rw [e1, e2]
/-- the worlds of all the answers, sorted, are the worlds -/
theorem found_sorted {h : Hse} (hk : HseOk h) (row : List Weigh) : ((answersOf row.length).flatMap fun a => givingOf h (row.zip a)).mergeSort (dataLe false Datum.toD) = worldsOf h := by
  refine sort_to (worlds_sorted hk) ?_
  have e : ((answersOf row.length).flatMap fun a => givingOf h (row.zip a)) = (answersOf row.length).flatMap fun a => (worldsOf h).filter fun w => decide (tellsOf h w row = a) :=
    fmap_congr fun a ha => giving_zip h row (answersOf_len _ ha)
  rw [e]
  exact split_perm (fun w => tellsOf h w row) _ _ (answersOf_nodup _) fun w _ => tells_mem h w row
theorem giving_nil (h : Hse) : givingOf h [] = worldsOf h := by
  unfold givingOf
  rw [List.filter_eq_self]
  intro w _
  exact decide_eq_true rfl
/-- what fits more fits less -/
theorem giving_less (h : Hse) (seen : List Told) {n m : Nat} (hnm : n ≤ m) {w : Wld} (hw : w ∈ givingOf h (seen.take m)) : w ∈ givingOf h (seen.take n) := by
  unfold givingOf at hw ⊢
  obtain ⟨h1, h2⟩ := List.mem_filter.mp hw
  refine List.mem_filter.mpr ⟨h1, decide_eq_true ?_⟩
  have q := of_decide_eq_true h2
  rw [tells_go] at q ⊢
  have e : ∀ k, (seen.take k).map (fun x => x.1) = (seen.map (fun x => x.1)).take k := fun k => List.map_take
  have e2 : ∀ k, (seen.take k).map (fun x => x.2) = (seen.map (fun x => x.2)).take k := fun k => List.map_take
  rw [e, e2] at q ⊢
  rw [goT_take] at q ⊢
  have := congrArg (List.take n) q
  rw [List.take_take, List.take_take, Nat.min_eq_left hnm] at this
  exact this
end Sly

set_option Elab.async false
set_option linter.all false
set_option maxRecDepth 100000
set_option maxHeartbeats 4000000
/-! The plain law: what is left, the parted record. -/
namespace Sly
open PySem PySem.Spec PyProof.Rows L2
open PySem.W (Datum DatumOrd Tup T3 dataLe dataLt AllAlike Sortable TotalLe sameRank)
/-- the distinct ones in order are the ones of the ordered list that are met -/
theorem distinct_is {α : Type} [DecidableEq α] [DatumOrd α] {L M : List α} {p : α → Bool} (hL : L.Pairwise fun a b => DatumOrd.lt a b = true) (nd : M.Nodup) (hm : ∀ x, x ∈ M ↔ x ∈ L ∧ p x = true) : M.mergeSort (dataLe false Datum.toD) = L.filter p := by
  refine sort_to (hL.filter p) ?_
  exact (List.perm_ext_iff_of_nodup nd ((ord_nodup hL).filter p)).mpr fun x => by rw [hm, List.mem_filter]
theorem int_strict {M : List Int} (h : M.Pairwise (· < ·)) : M.Pairwise fun a b => DatumOrd.lt a b = true := h.imp fun {a b} q => decide_eq_true q
/-- the weights at a place of the worlds that are left -/
def wAt (L : List Wld) (i : Nat) : List Int := L.filterMap fun w => w.1.items[i]?
def sAt (L : List Wld) (i : Nat) : List Srt := L.filterMap fun w => w.2.items[i]?
theorem wAt_is {h : Hse} {seen : List Told} (hk : HseOk h) {i : Nat} {t : Thing} (ht : h.1.items[i]? = some t) {M : List Int} (hM : M.Pairwise (· < ·)) (hm : ∀ x, x ∈ M ↔ x ∈ wAt (givingOf h seen) i) :
    M = t.2.items.filter fun one => (givingOf h seen).any fun w => decide (w.1.items[i]? = some one) := by
  have hs := int_strict hM
  have e := sort_to hs (List.Perm.refl M)
  rw [← e]
  refine distinct_is (int_strict (hk.wts t (List.mem_of_getElem? ht)).2.2.1) (ord_nodup hs) fun x => ?_
  rw [hm]
  unfold wAt
  rw [List.mem_filterMap, List.any_eq_true]
  constructor
  · rintro ⟨w, hw, e⟩
    obtain ⟨n, en, hn⟩ := world_w (List.mem_filter.mp hw).1 ht
    rw [en] at e
    cases e
    exact ⟨hn, w, hw, decide_eq_true en⟩
  · rintro ⟨_, w, hw, e⟩
    exact ⟨w, hw, of_decide_eq_true e⟩
theorem sAt_is {h : Hse} {seen : List Told} (hk : HseOk h) {i : Nat} {t : Scale} (ht : h.2.items[i]? = some t) {M : List Srt} (hM : M.Nodup) (hm : ∀ x, x ∈ M ↔ x ∈ sAt (givingOf h seen) i) :
    M.mergeSort (dataLe false Datum.toD) = t.2.items.filter fun one => (givingOf h seen).any fun w => decide (w.2.items[i]? = some one) := by
  refine distinct_is (hk.srt t (List.mem_of_getElem? ht)).2.2.1 hM fun x => ?_
  rw [hm]
  unfold sAt
  rw [List.mem_filterMap, List.any_eq_true]
  constructor
  · rintro ⟨w, hw, e⟩
    obtain ⟨n, en, hn⟩ := world_s (List.mem_filter.mp hw).1 ht
    rw [en] at e
    cases e
    exact ⟨hn, w, hw, decide_eq_true en⟩
  · rintro ⟨_, w, hw, e⟩
    exact ⟨w, hw, of_decide_eq_true e⟩
/-! ### parted by scales -/
def okR (h : Hse) (w : Wld) (ahead : List Weigh) (l : List Told) : Prop := goT h w ahead (l.map (·.1)) = l.map (·.2)
theorem okR_cons (h : Hse) (w : Wld) (ahead : List Weigh) (p : Told) (r : List Told) : okR h w ahead (p :: r) ↔ answer h w ahead p.1 = p.2 ∧ okR h w (ahead ++ [p.1]) r := by
  unfold okR
  rw [List.map_cons, List.map_cons]
  show answer h w ahead p.1 :: _ = _ ↔ _
  rw [List.cons.injEq]
theorem own_own (ahead : List Weigh) (s : Str) : ownOf (ownOf ahead s) s = ownOf ahead s := by
  unfold ownOf
  rw [List.filter_filter]
  simp
theorem own_snoc (ahead : List Weigh) (g : Weigh) (s : Str) : ownOf (ahead ++ [g]) s = if g.a = s then ownOf ahead s ++ [g] else ownOf ahead s := by
  unfold ownOf
  rw [List.filter_append]
  by_cases e : g.a = s
  · rw [if_pos e]
    simp [e]
  · rw [if_neg e]
    simp [e]
theorem answer_own (h : Hse) (w : Wld) (ahead : List Weigh) (g : Weigh) : answer h w (ownOf ahead g.a) g = answer h w ahead g := by
  unfold answer
  rw [own_own]
theorem okR_parts (h : Hse) (w : Wld) : ∀ (l : List Told) (ahead : List Weigh), okR h w ahead l ↔ ∀ s : Str, okR h w (ownOf ahead s) (l.filter fun p => decide (p.1.a = s))
  | [], ahead => by
    simp [okR, goT]
  | p :: r, ahead => by
    rw [okR_cons, okR_parts h w r]
    constructor
    · rintro ⟨h1, h2⟩ s
      have q := h2 s
      rw [own_snoc] at q
      by_cases e : p.1.a = s
      · rw [if_pos e] at q
        rw [List.filter_cons_of_pos (by simp [e]), okR_cons]
        refine ⟨?_, q⟩
        rw [← e, answer_own]
        exact h1
      · rw [if_neg e] at q
        rw [List.filter_cons_of_neg (by simp [e])]
        exact q
    · intro q
      constructor
      · have z := q p.1.a
        rw [List.filter_cons_of_pos (by simp), okR_cons, answer_own] at z
        exact z.1
      · intro s
        have z := q s
        rw [own_snoc]
        by_cases e : p.1.a = s
        · rw [if_pos e]
          rw [List.filter_cons_of_pos (by simp [e]), okR_cons] at z
          exact z.2
        · rw [if_neg e]
          rw [List.filter_cons_of_neg (by simp [e])] at z
          exact z
/-- the record parted by scales -/
def partedOf (seen : List Told) : List Told := seen.mergeSort (dataLe false fun p : Told => .str p.1.a)
theorem parted_filter (seen : List Told) (s : Str) : (partedOf seen).filter (fun p => decide (p.1.a = s)) = seen.filter fun p => decide (p.1.a = s) := by
  have T := dataLe_total fun p : Told => PyData.str p.1.a
  let c : Told := (⟨s, Tup.mk [], Tup.mk []⟩, 0)
  have e : (fun p : Told => decide (p.1.a = s)) = sameRank (dataLe false fun p : Told => .str p.1.a) c := by
    funext p
    unfold sameRank
    rw [dataLe_iff, dataLe_iff]
    have l1 : dataLt (.str p.1.a) (.str c.1.a) = DatumOrd.lt p.1.a s := DatumOrd.lt_eq p.1.a s
    have l2 : dataLt (.str c.1.a) (.str p.1.a) = DatumOrd.lt s p.1.a := DatumOrd.lt_eq s p.1.a
    rw [l1, l2]
    by_cases z : p.1.a = s
    · rw [decide_eq_true z, z, ord_irrefl]
      rfl
    · rw [decide_eq_false z]
      cases h1 : DatumOrd.lt p.1.a s with
      | true => rfl
      | false =>
        cases h2 : DatumOrd.lt s p.1.a with
        | true => rfl
        | false => exact absurd (ord_tri h1 h2) z
  rw [e]
  exact PySem.W.sort_stable T seen c
theorem giving_parted (h : Hse) (seen : List Told) : givingOf h (partedOf seen) = givingOf h seen := by
  unfold givingOf
  refine List.filter_congr fun w _ => ?_
  rw [tells_go, tells_go]
  have q : okR h w [] (partedOf seen) ↔ okR h w [] seen := by
    rw [okR_parts, okR_parts h w seen]
    refine forall_congr' fun s => ?_
    rw [parted_filter]
  by_cases z : okR h w [] seen
  · rw [decide_eq_true (show goT h w [] (seen.map (·.1)) = seen.map (·.2) from z), decide_eq_true (show goT h w [] ((partedOf seen).map (·.1)) = (partedOf seen).map (·.2) from q.mpr z)]
  · rw [decide_eq_false (show ¬ goT h w [] (seen.map (·.1)) = seen.map (·.2) from z), decide_eq_false (show ¬ goT h w [] ((partedOf seen).map (·.1)) = (partedOf seen).map (·.2) from fun y => z (q.mp y))]
theorem parted_ok {h : Hse} {seen : List Told} (hs : SeenOk h seen) : SeenOk h (partedOf seen) := by
  have p := List.mergeSort_perm seen (dataLe false fun p : Told => .str p.1.a)
  exact ⟨by unfold partedOf; rw [p.length_eq]; exact hs.1, fun x hx => hs.2 x (p.mem_iff.mp hx)⟩
end Sly

set_option Elab.async false
set_option linter.all false
set_option maxRecDepth 100000
set_option maxHeartbeats 4000000
/-! Small things for the walk of the law. -/
namespace Sly
open PySem PySem.Spec PyProof.Rows L2 LamX
open PySem.W (Datum DatumOrd Tup T3 dataLe)
theorem Tabs.keep {T : List (Addr × Str)} {b : Addr} {H H' : Hp} (t : Tabs T H) (k : Keep b H H') (hb : BagAt H b) : Tabs T H' := fun p hp => by
  obtain ⟨ps, h1, h2, h3⟩ := t p hp
  refine ⟨ps, k _ _ (hb.ne h1 fun _ _ z => nomatch z) h1, h2, fun pos cv hc => ?_⟩
  obtain ⟨c, e1, e2⟩ := h3 pos cv hc
  exact ⟨c, e1, k _ _ (hb.ne e2 fun _ _ z => nomatch z) e2⟩
section
variable {α : Type} [DecidableEq α] [Datum α]
theorem Ls.extN {H H' : Hp} {p : Addr} {xs : List α} (h : Ls H p xs) (e : ExtN H H') : Ls H' p xs := by
  obtain ⟨vs, e1, g⟩ := h
  exact ⟨vs, e _ _ e1 (fun _ z => nomatch z), g.mono (ExtN.t e)⟩
end
theorem BagAt.extN {H H' : Hp} {b : Addr} (h : BagAt H b) (e : ExtN H H') : BagAt H' b := by
  obtain ⟨d, ds, c, e1, e2, r⟩ := h
  exact ⟨d, ds, c, e _ _ e1 (fun _ z => nomatch z), e _ _ e2 (fun _ z => nomatch z), r⟩
/-- the pairs of a zipped list -/
theorem zip_ho {α β : Type} [DecidableEq α] [Datum α] [DecidableEq β] [Datum β] {H : Hp} : ∀ {Ts : List Addr} {xs ys : List V} {as : List α} {bs : List β}, Ts.length = min xs.length ys.length → HoA H xs as → HoA H ys bs →
    (∀ (j : Nat) (T : Addr) (x y : V), Ts[j]? = some T → xs[j]? = some x → ys[j]? = some y → H T = some (.tup [x, y])) → HoA H (Ts.map V.ref) (as.zip bs)
  | Ts, xs, ys, [], bs, hl, hx, hy, hT => by
    rw [hoA_nil hx] at hl
    have e : Ts = [] := List.eq_nil_of_length_eq_zero (by simpa using hl)
    rw [e]
    exact HoA.nil
  | Ts, xs, ys, a :: as, [], hl, hx, hy, hT => by
    rw [hoA_nil hy] at hl
    have e : Ts = [] := List.eq_nil_of_length_eq_zero (by simpa using hl)
    rw [e]
    exact HoA.nil
  | Ts, xs, ys, a :: as, b :: bs, hl, hx, hy, hT => by
    obtain ⟨x, xs', rfl, h1, h2⟩ := hoA_cons hx
    obtain ⟨y, ys', rfl, h3, h4⟩ := hoA_cons hy
    cases Ts with
    | nil => simp at hl
    | cons T Ts =>
      exact HoA.cons (Ho.pair (hT 0 T x y rfl rfl rfl) h1 h3) (zip_ho (by simpa [Nat.succ_min_succ] using hl) h2 h4 fun j T' x' y' e1 e2 e3 => hT (j + 1) T' x' y' (by simpa using e1) (by simpa using e2) (by simpa using e3))
theorem fm_at {β : Type} {f : Nat → Option β} : ∀ (n : Nat), (∀ i, i < n → ∃ b, f i = some b) → ((List.range n).filterMap f).length = n ∧ ∀ i, i < n → ((List.range n).filterMap f)[i]? = f i
  | 0, _ => ⟨rfl, fun i hi => absurd hi (Nat.not_lt_zero _)⟩
  | n + 1, h => by
    obtain ⟨h1, h2⟩ := fm_at n fun i hi => h i (by omega)
    obtain ⟨b, hb⟩ := h n (by omega)
    have e : (List.range (n + 1)).filterMap f = (List.range n).filterMap f ++ [b] := by
      rw [List.range_succ, List.filterMap_append, show [n].filterMap f = [b] by simp [hb]]
    rw [e]
    refine ⟨by rw [List.length_append, h1]; rfl, fun i hi => ?_⟩
    by_cases hlt : i < n
    · rw [List.getElem?_append_left (by omega)]
      exact h2 i hlt
    · have : i = n := by omega
      subst this
      rw [List.getElem?_append_right (by omega), h1, Nat.sub_self, hb]
      rfl
theorem wLeft_at {h : Hse} {seen : List Told} {i : Nat} {x : Str × Tup Int} (e : (weightsLeft h seen)[i]? = some x) : ∃ t, h.1.items[i]? = some t ∧ x = (t.1, Tup.mk (t.2.items.filter fun one => (givingOf h seen).any fun w => decide (w.1.items[i]? = some one))) := by
  have all : ∀ i, i < h.1.items.length → ∃ b, leftW h seen i = some b := fun i hi => by
    unfold leftW
    rw [List.getElem?_eq_getElem hi]
    exact ⟨_, rfl⟩
  obtain ⟨l1, l2⟩ := fm_at (f := leftW h seen) h.1.items.length all
  have il : i < h.1.items.length := by
    have := (List.getElem?_eq_some_iff.mp e).1
    unfold weightsLeft at this
    omega
  have e' := (l2 i il).symm.trans e
  unfold leftW at e'
  rw [List.getElem?_eq_getElem il] at e'
  exact ⟨_, List.getElem?_eq_getElem il, (Option.some.inj e').symm⟩
theorem sLeft_at {h : Hse} {seen : List Told} {i : Nat} {x : Str × Tup Srt} (e : (sortsLeft h seen)[i]? = some x) : ∃ t, h.2.items[i]? = some t ∧ x = (t.1, Tup.mk (t.2.items.filter fun one => (givingOf h seen).any fun w => decide (w.2.items[i]? = some one))) := by
  have all : ∀ i, i < h.2.items.length → ∃ b, leftS h seen i = some b := fun i hi => by
    unfold leftS
    rw [List.getElem?_eq_getElem hi]
    exact ⟨_, rfl⟩
  obtain ⟨l1, l2⟩ := fm_at (f := leftS h seen) h.2.items.length all
  have il : i < h.2.items.length := by
    have := (List.getElem?_eq_some_iff.mp e).1
    unfold sortsLeft at this
    omega
  have e' := (l2 i il).symm.trans e
  unfold leftS at e'
  rw [List.getElem?_eq_getElem il] at e'
  exact ⟨_, List.getElem?_eq_getElem il, (Option.some.inj e').symm⟩
theorem wld_sortable (xs : List Wld) : PySem.W.Sortable (xs.map Datum.toD) := PySem.W.Sortable.tuples fun b => ⟨_, _, rfl⟩
theorem giving_len {h : Hse} (hk : HseOk h) (seen : List Told) : (givingOf h seen).length ≤ 65536 := Nat.le_trans (List.length_filter_le _ _) (worlds_len hk)
end Sly

set_option Elab.async false
set_option linter.all false
set_option maxRecDepth 100000
set_option maxHeartbeats 4000000
/-! The walk of the law. -/
namespace Sly
open PySem PySem.Spec PyProof.Rows L2 LamX
open PySem.W (Datum DatumOrd Tup T3 dataLe)
section
variable {P : Program} {w : PySem.World} {K : PySem.W.Frag} {mg : Str → Option Value} {base : Heap}
theorem okC {x qual : Str} {st : Stmt} {f c : Addr} {fd : FuncData} {N ps : List Str} {k : Nat} {sp : Sp} (F : Fun K x qual st f fd) (S : FnScope N ps (defScope st)) (hcode : fd.code = .ref c) (len : ∀ vs H Q E, sp vs H Q E → vs.length = ps.length)
    (hbody : ∀ (A : Around) (outer : List Env) (s : Shared) (H : Hp) (vs : List V) (Q : VK) (E : XK), Room k (A.deeper (envOfC qual (defScope st) s.heap.objs.size f (.ref c))) → sp vs H Q E →
      ∃ t, PSs (cxOf CX0 P w K mg base N qual (defScope st) f (.ref c) A outer s H E).nox (defBody st) t ∧ t { nx := fun _ H' => Q .non H', rt := Q } (L2.start N vs) H) : FnOk P w K mg base CX0 (k + 1) f fd ps sp := by
  obtain ⟨oc, od, kV, doc, pm, an, cdv, ct, osl, rfl, lk, hcd⟩ := F.ex
  have e : cdv = .ref c := hcode
  subst e
  refine fn_of lk hcd S len fun A outer s H vs Q E hr hsp => ?_
  obtain ⟨t, h, q⟩ := hbody A outer s H vs Q E hr hsp
  exact ⟨t, h.nox, q⟩
def lamQ : Str := (envOfC "law" (defScope sLaw) 0 0 .none).qual ++ "<lambda>"
def spLaw (K : PySem.W.Frag) (Pt : Addr) : Sp := fun vs H Q _ => ∃ (a : Addr) (ns : List Int), vs = [.ref a] ∧ SqL K H a (ns.map V.int) ∧ H Pt = some (.tbl #[]) ∧ ∀ H', Q (.bl true) H'
/-- what the law calls -/
structure Calls8 (P : Program) (w : PySem.World) (K : PySem.W.Frag) (mg : Str → Option Value) (base : Heap) : Prop where
  bags : ∃ f fd, FnOk P w K mg base CX0 3 f fd ["script", "limit"] (spBags K) ∧ PySem.W.keepIn K (.ref f) = true ∧ Binds K fd ["script", "limit"] [] ∧ mg "_law_bags" = some (.ref f)
  house : ∃ f fd, FnOk P w K mg base CX0 3 f fd ["bag", "bound", "far"] spHouse ∧ PySem.W.keepIn K (.ref f) = true ∧ Binds K fd ["bag", "bound", "far"] [] ∧ mg "_law_house" = some (.ref f)
  worlds : ∃ f fd, FnOk P w K mg base CX0 2 f fd ["house"] spWorlds ∧ PySem.W.keepIn K (.ref f) = true ∧ Binds K fd ["house"] [] ∧ mg "worlds" = some (.ref f)
  row : ∃ f fd, FnOk P w K mg base CX0 3 f fd ["bag", "house", "limit"] spRow ∧ PySem.W.keepIn K (.ref f) = true ∧ Binds K fd ["bag", "house", "limit"] [] ∧ mg "_law_row" = some (.ref f)
  rows : ∃ f fd, FnOk P w K mg base CX0 1 f fd ["parts"] (spRowsOf Int) ∧ PySem.W.keepIn K (.ref f) = true ∧ Binds K fd ["parts"] [] ∧ mg "_law_rows_of" = some (.ref f)
  fit : ∃ f fd, FnOk P w K mg base CX0 7 f fd ["house", "seen"] spGiving ∧ PySem.W.keepIn K (.ref f) = true ∧ Binds K fd ["house", "seen"] [] ∧ mg "fitting" = some (.ref f)
  tells : ∃ f fd, FnOk P w K mg base CX0 3 f fd ["house", "world", "row"] spTells ∧ PySem.W.keepIn K (.ref f) = true ∧ Binds K fd ["house", "world", "row"] [] ∧ mg "tells" = some (.ref f)
  seen : ∃ f fd, FnOk P w K mg base CX0 4 f fd ["bag", "house", "limit"] spLSeen ∧ PySem.W.keepIn K (.ref f) = true ∧ Binds K fd ["bag", "house", "limit"] [] ∧ mg "_law_seen" = some (.ref f)
  wl : ∃ f fd, FnOk P w K mg base CX0 7 f fd ["house", "seen"] spWLeft ∧ PySem.W.keepIn K (.ref f) = true ∧ Binds K fd ["house", "seen"] [] ∧ mg "weights_left" = some (.ref f)
  sl : ∃ f fd, FnOk P w K mg base CX0 7 f fd ["house", "seen"] spSLeft ∧ PySem.W.keepIn K (.ref f) = true ∧ Binds K fd ["house", "seen"] [] ∧ mg "sorts_left" = some (.ref f)
theorem ok_law {f c Pt : Addr} {fd : FuncData} (F : Fun K "law" "law" sLaw f fd) (hcode : fd.code = .ref c) (B : Blt mg) (TB : TabB base mg c Pt) (G : Calls8 P w K mg base) : FnOk P w K mg base CX0 8 f fd ["script"] (spLaw K Pt) := by
  refine okC F scLaw hcode (fun vs H Q E h => ?_) (fun A outer s H vs Q E hr h => ?_)
  · obtain ⟨a, ns, rfl, _⟩ := h
    rfl
  · obtain ⟨a, ns, rfl, ha, hPt, q⟩ := h
    have nd := scLaw.nd
    obtain ⟨f1, d1, G1, k1, b1, m1⟩ := G.bags
    obtain ⟨f2, d2, G2, k2, b2, m2⟩ := G.house
    obtain ⟨f3, d3, G3, k3, b3, m3⟩ := G.worlds
    obtain ⟨f4, d4, G4, k4, b4, m4⟩ := G.row
    obtain ⟨f5, d5, G5, k5, b5, m5⟩ := G.rows
    obtain ⟨f6, d6, G6, k6, b6, m6⟩ := G.fit
    obtain ⟨f7, d7, G7, k7, b7, m7⟩ := G.tells
    obtain ⟨f8, d8, G8, k8, b8, m8⟩ := G.seen
    obtain ⟨f9, d9, G9, k9, b9, m9⟩ := G.wl
    obtain ⟨fa, da, Ga, ka, ba, ma⟩ := G.sl
    refine ⟨_, pss_cons (ps_for PassesOwn.never rfl (pi_list (pe_call G1 (hr.mono (by decide)) (by rfl) m1 k1 b1 .nil pass0 (pa_cons (pv 0) (pa_cons pe_int pa_nil)))) (pg_name (i := 1) nd rfl (.inl rfl))
        (pss_cons (ps_set (i := 2) nd rfl (.inr rfl) (pe_call G2 (hr.mono (by decide)) (by rfl) m2 k2 b2 .nil pass0 (pa_cons (pv 1) (pa_cons pe_int (pa_cons pe_int pa_nil)))))
        (pss_cons (ps_asg (pe_tup (pa_cons (pe_call G3 (hr.mono (by decide)) (by rfl) m3 k3 b3 .nil pass0 (pa_cons (pv 2) pa_nil)) (pa_cons (pe_call G4 (hr.mono (by decide)) (by rfl) m4 k4 b4 .nil pass0 (pa_cons (pv 1) (pa_cons (pv 2) (pa_cons pe_int pa_nil)))) pa_nil)))
          (pg_tup rfl (pgs_cons (pg_name (i := 3) nd rfl (.inl rfl)) (pgs_cons (pg_name (i := 4) nd rfl (.inr rfl)) pgs_nil))))
        (pss_cons (ps_set (i := 5) nd rfl (.inl rfl) (pe_lst pa_nil))
        (pss_cons (ps_for PassesOwn.never rfl (pi_list (pe_call G5 (hr.mono (by decide)) (by rfl) m5 k5 b5 .nil pass0 (pa_cons (pe_op op_rep (pe_lst (pa_cons (pe_tup (pa_cons (pe_un un_neg pe_int) (pa_cons pe_int (pa_cons pe_int pa_nil)))) pa_nil)) (pe_callB call_len_seq (by rfl) B.len b_len (pa_cons (pv 4) pa_nil))) pa_nil))) (pg_name (i := 6) nd rfl (.inr rfl))
          (pss_cons (ps_set (i := 7) nd rfl (.inl rfl) (pe_call G6 hr (by rfl) m6 k6 b6 .nil pass0 (pa_cons (pv 2) (pa_cons (pe_listZip rfl (by rfl) B.list (by rfl) B.zip (pa_cons (pv 4) (pa_cons (pv 6) pa_nil))) pa_nil))))
          (pss_cons (ps_set (i := 5) nd rfl (.inl rfl) (pe_op op_cat (pv 5) (pv 7)))
          (pss_one (ps_if (pt_not (pt_val (pe_callB (cr_all rfl) (by rfl) B.all b_all (pa_cons (pe_lc (own := [("world", 17)]) (g := gName 17) (tt := tYes) (te := tOp (rEqT (List Int) K) (tCall spTells [] E0 (tCons (tVar 2) (tCons (tVar 17) (tCons (tVar 4) tNil)))) (tCB (fun xs H Q => ∃ p ys, xs = [.ref p] ∧ (SqL K H p ys ∨ SqT K H p ys) ∧ ∀ l, H l = none → Q (.ref l) (upd H l (.lst ys))) (tCons (tVar 6) tNil))) rfl nd (pi_list (pv 7))
            (blkOk_by (N := nLaw) (sc := defScope sLaw) (by decide +kernel)) (fun _ _ _ _ _ => pg_name (i := 17) nd rfl (.inl rfl)) (fun _ _ _ _ _ => pts_nil)
            (fun _ _ _ _ _ => pe_cmpR (op_eqT (α := List Int) hr.units (by decide)) (pe_call G7 (hr.mono (by decide)) (by rfl) m7 k7 b7 .nil pass0 (pa_cons (pv 2) (pa_cons (pv 17) (pa_cons (pv 4) pa_nil)))) (pe_callTy call_list_of (by rfl) B.list b_list (pa_cons (pv 6) pa_nil)) (nomark _))) pa_nil))))
            (pss_one (ps_ret pe_bl)) pss_nil)))))
        (pss_cons (ps_if (pt_cmpR (op_neT (α := List Wld) hr.units (by decide)) (pe_callB (cr_sortedH (α := Wld) hr.units (by decide)) (by rfl) B.sorted b_sorted (pa_cons (pv 5) pa_nil)) (pv 3) (nomark _)) (pss_one (ps_ret pe_bl)) pss_nil)
        (pss_cons (ps_asg (pe_tup (pa_cons (pe_call G8 (hr.mono (by decide)) (by rfl) m8 k8 b8 .nil pass0 (pa_cons (pv 1) (pa_cons (pv 2) (pa_cons pe_int pa_nil)))) (pa_cons (pv 3) pa_nil))) (pg_tup rfl (pgs_cons (pg_name (i := 8) nd rfl (.inl rfl)) (pgs_cons (pg_name (i := 9) nd rfl (.inr rfl)) pgs_nil))))
        (pss_cons (ps_for PassesOwn.never rfl (pi_range1 (by rfl) B.range (pa_cons (pe_op op_add (pe_callB call_len_seq (by rfl) B.len b_len (pa_cons (pv 8) pa_nil)) pe_int) pa_nil)) (pg_name (i := 10) nd rfl (.inl rfl))
          (pss_cons (ps_set (i := 11) nd rfl (.inl rfl) (pe_call G6 hr (by rfl) m6 k6 b6 .nil pass0 (pa_cons (pv 2) (pa_cons (pe_slice sl_list (pv 8) po_none (po_some (pv 10))) pa_nil))))
          (pss_cons (ps_if (pt_not (pt_val (pe_callB (cr_all rfl) (by rfl) B.all b_all (pa_cons (pe_lc (own := [("world", 17)]) (g := gName 17) (tt := tYes) (te := tOp (rInT Wld K) (tVar 17) (tVar 9)) rfl nd (pi_list (pv 11))
            (blkOk_by (N := nLaw) (sc := defScope sLaw) (by decide +kernel)) (fun _ _ _ _ _ => pg_name (i := 17) nd rfl (.inl rfl)) (fun _ _ _ _ _ => pts_nil) (fun _ _ _ _ _ => pe_cmpR (op_inT (α := Wld) hr.units (by decide)) (pv 17) (pv 9) rfl)) pa_nil)))) (pss_one (ps_ret pe_bl)) pss_nil)
          (pss_one (ps_set (i := 9) nd rfl (.inr rfl) (pv 11))))))
        (pss_cons (ps_for PassesOwn.never rfl (pi_enum (by rfl) B.enumerate (pa_cons (pe_call G9 hr (by rfl) m9 k9 b9 .nil pass0 (pa_cons (pv 2) (pa_cons (pv 8) pa_nil))) pa_nil)) (pg_tup rfl (pgs_cons (pg_name (i := 12) nd rfl (.inr rfl)) (pgs_cons (pg_tup rfl (pgs_cons (pg_name (i := 13) nd rfl (.inl rfl)) (pgs_cons (pg_name (i := 14) nd rfl (.inl rfl)) pgs_nil))) pgs_nil)))
          (pss_one (ps_if (pt_cmpR (op_neT (α := List Int) hr.units (by decide)) (pe_callB (cr_sortedSet rfl) (by rfl) B.sorted b_sorted (pa_cons (pe_callTy (cr_setIL rfl) (by rfl) B.set b_set (pa_cons
            (pe_lc (own := [("world", 17)]) (g := gName 17) (tt := tYes) (te := tOp (rIxT K) (tOp (rIxT K) (tVar 17) (tC (.int 0))) (tVar 12)) rfl nd (pi_list (pv 9)) (blkOk_by (N := nLaw) (sc := defScope sLaw) (by decide +kernel)) (fun _ _ _ _ _ => pg_name (i := 17) nd rfl (.inl rfl)) (fun _ _ _ _ _ => pts_nil)
              (fun _ _ _ _ _ => pe_ix ix_tup (pe_ix ix_tup (pv 17) pe_int (fun _ _ => rfl)) (pv 12) (fun _ _ => rfl))) pa_nil)) pa_nil)) (pe_callTy call_list_of (by rfl) B.list b_list (pa_cons (pv 14) pa_nil)) (nomark _)) (pss_one (ps_ret pe_bl)) pss_nil)))
        (pss_cons (ps_for PassesOwn.never rfl (pi_enum (by rfl) B.enumerate (pa_cons (pe_call Ga hr (by rfl) ma ka ba .nil pass0 (pa_cons (pv 2) (pa_cons (pv 8) pa_nil))) pa_nil)) (pg_tup rfl (pgs_cons (pg_name (i := 12) nd rfl (.inr rfl)) (pgs_cons (pg_tup rfl (pgs_cons (pg_name (i := 13) nd rfl (.inl rfl)) (pgs_cons (pg_name (i := 15) nd rfl (.inl rfl)) pgs_nil))) pgs_nil)))
          (pss_one (ps_if (pt_cmpR (op_neT (α := List Srt) hr.units (by decide)) (pe_callB (cr_sortedM rfl hr.units) (by rfl) B.sorted b_sorted (pa_cons (pe_callTy (cr_setM rfl hr.units) (by rfl) B.set b_set (pa_cons
            (pe_lc (own := [("world", 17)]) (g := gName 17) (tt := tYes) (te := tOp (rIxT K) (tOp (rIxT K) (tVar 17) (tC (.int 1))) (tVar 12)) rfl nd (pi_list (pv 9)) (blkOk_by (N := nLaw) (sc := defScope sLaw) (by decide +kernel)) (fun _ _ _ _ _ => pg_name (i := 17) nd rfl (.inl rfl)) (fun _ _ _ _ _ => pts_nil)
              (fun _ _ _ _ _ => pe_ix ix_tup (pe_ix ix_tup (pv 17) pe_int (fun _ _ => rfl)) (pv 12) (fun _ _ => rfl))) pa_nil)) pa_nil)) (pe_callTy call_list_of (by rfl) B.list b_list (pa_cons (pv 15) pa_nil)) (nomark _)) (pss_one (ps_ret pe_bl)) pss_nil)))
        (pss_cons (ps_set (i := 16) nd rfl (.inl rfl) (pe_sortedLam (T := [(Pt, lamQ)]) (c := c) (P := Pt) hr.units hr (by rfl) rfl B.sorted (pa_cons (pv 8) pa_nil) TB rfl (List.mem_singleton.mpr rfl) (fun p hp _ => by rw [List.mem_singleton.mp hp]; rfl) rfl (fun _ _ _ _ _ => by rfl) rfl rfl rfl (by decide) rfl rfl rfl))
        (pss_one (ps_if (PW.pt (pw_or (pt_cmpR (op_neT (α := List Wld) hr.units (by decide)) (pe_call G6 hr (by rfl) m6 k6 b6 .nil pass0 (pa_cons (pv 2) (pa_cons (pv 16) pa_nil))) (pv 9) (nomark _)) (pw_or1 (pt_cmpR (op_neT (α := List Wld) hr.units (by decide)) (pe_call G6 hr (by rfl) m6 k6 b6 .nil pass0 (pa_cons (pv 2) (pa_cons (pe_lst pa_nil) pa_nil))) (pv 3) (nomark _))))) (pss_one (ps_ret pe_bl)) pss_nil)))))))))))))
      (pss_one (ps_ret pe_bl)), ?_⟩
    have sm : ∀ n : Nat, n ≤ 100 → n ≤ sizeLine := fun n h => small_le (by omega)
    have T0 : Tabs [(Pt, lamQ)] H := fun p hp => by
      rw [List.mem_singleton.mp hp]
      exact TabS.nil hPt
    refine ⟨_, rfl, a, ns, rfl, ha, fun q0 H0 bs s0 n0 e0 nb hbs lbs => ?_⟩
    have T1 := T0.ext s0
    have hbl : (bs.map V.ref).length = bs.length := List.length_map ..
    refine ⟨q0, rfl, ⟨_, SqL.of e0⟩, for_it (walk_list (K := K) (a := q0) (xs := bs.map V.ref)) (fun n σ H' => ∃ (y1 y2 y3 y4 y5 y6 y7 y8 y9 y10 y11 y12 y13 y14 y15 y16 : Option V), σ = [some (.ref a), y1, y2, y3, y4, y5, y6, y7, y8, y9, y10, y11, y12, y13, y14, y15, y16, none] ∧ H' q0 = some (.lst (bs.map V.ref)) ∧ Tabs [(Pt, lamQ)] H' ∧ ∀ (j : Nat) (b : Addr), n ≤ j → bs[j]? = some b → BagAt H' b)
      ⟨none, none, none, none, none, none, none, none, none, none, none, none, none, none, none, none, rfl, e0, T1, fun j b _ e => (hbs b (List.mem_of_getElem? e)).1⟩ (fun n σ H' _ ⟨_, _, _, _, _, _, _, _, _, _, _, _, _, _, _, _, _, e, _⟩ => SqL.of e) ?_ ?_⟩
    · rintro n x σ Hs0 Hs hn ⟨y1, y2, y3, y4, y5, y6, y7, y8, y9, y10, y11, y12, y13, y14, y15, y16, rfl, eq0, TS, hbags⟩ ⟨rfl, hx⟩
      have hx' : (bs.map V.ref)[n]? = some x := hx
      rw [List.getElem?_map] at hx'
      obtain ⟨b, eb, rfl⟩ : ∃ b, bs[n]? = some b ∧ x = .ref b := by
        cases e : bs[n]? with
        | none => rw [e] at hx'; cases hx'
        | some b => rw [e] at hx'; exact ⟨b, rfl, (Option.some.inj hx').symm⟩
      have hb := hbags n b (Nat.le_refl _) eb
      have q0b : q0 ≠ b := hb.ne eq0 fun d c z => by
        injection z with z
        cases bs with
        | nil => cases z
        | cons u r =>
          cases r with
          | nil => cases z
          | cons u2 r => cases z
      clear hx hx'
      -- the house
      refine ⟨_, rfl, b, rfl, hb, fun v H1 h k1 hb1 hv hk => ?_⟩
      refine ⟨_, rfl, v, h, rfl, hv, hk, fun q1 H2 s2 n2 h2 => ?_⟩
      have hb2 := hb1.up s2
      have q1b := hb1.fresh n2
      refine ⟨_, rfl, _, rfl, b, v, h, 4, rfl, hb2, hv.up s2, hk, by decide, by decide, fun q2 H3 row k3 hb3 n3 h3 hl3 hok3 => ?_⟩
      have q2b := hb2.fresh n3
      have hl4 : row.length ≤ 4 := hl3
      refine ⟨sm 2 (by decide), fun T nT => ?_⟩
      have s4 : Same H3 (upd H3 T (.tup [.ref q1, .ref q2])) := Same.new nT
      refine ⟨T, _, rfl, SqT.of upd_same, rfl, _, _, rfl, _, _, rfl, rfl, ?_⟩
      have hv4 := ((hv.up s2).keep k3 hb2).up s4
      have h24 := (h2.keep k3 hb2 q1b).up s4
      have h34 := h3.up s4
      have hb4 := hb3.up s4
      have k4 : Keep b Hs _ := ((k1.trans (Keep.of s2)).trans k3).trans (Keep.of s4)
      generalize upd H3 T (.tup [.ref q1, .ref q2]) = H4 at hv4 h24 h34 hb4 k4 ⊢
      clear s4
      have hrow : RowOk h row := ⟨by omega, hok3⟩
      -- found, the answers
      refine ⟨sm 0 (by decide), fun fd0 nfd0 => ?_⟩
      have s5 : Same H4 (upd H4 fd0 (.lst [])) := Same.new nfd0
      refine ⟨1, rfl, sm 3 (by decide), fun t nt => ⟨sm 1 (by decide), fun l nl => ?_⟩⟩
      have gT : Ho (upd (upd H4 fd0 (.lst [])) t (.tup [.int (-1), .int 0, .int 1])) (.ref t) (Tup.mk [(-1 : Int), 0, 1]) := Ho.tup upd_same (HoA.ofInts [-1, 0, 1])
      have s6 : Same H4 (upd (upd H4 fd0 (.lst [])) t (.tup [.int (-1), .int 0, .int 1])) := Same.trans s5 (Same.new nt)
      have s7 : Same H4 (upd (upd (upd H4 fd0 (.lst [])) t (.tup [.int (-1), .int 0, .int 1])) l (.lst [.ref t])) := Same.trans s6 (Same.new nl)
      have gT2 := gT.up (Same.new (o := HO.lst [.ref t]) nl)
      have efd : (upd (upd (upd H4 fd0 (.lst [])) t (.tup [.int (-1), .int 0, .int 1])) l (.lst [.ref t])) fd0 = some (.lst []) := (Same.new nl) _ _ ((Same.new nt) _ _ upd_same)
      have el : (upd (upd (upd H4 fd0 (.lst [])) t (.tup [.int (-1), .int 0, .int 1])) l (.lst [.ref t])) l = some (.lst [.ref t]) := upd_same
      generalize (upd (upd (upd H4 fd0 (.lst [])) t (.tup [.int (-1), .int 0, .int 1])) l (.lst [.ref t])) = H5 at s7 gT2 efd el ⊢
      obtain ⟨rv, erv, grv⟩ := h34.up s7
      have rvl : rv.length = row.length := grv.length
      refine ⟨_, rfl, q2, rv, rfl, .inl (SqL.of erv), l, (rv.length : Nat), [.ref t], rfl, rfl, el, by omega, by omega, ?_, fun p np => ?_⟩
      · refine sm _ ?_
        rw [List.length_singleton, Int.toNat_natCast]
        omega
      have erep : (List.replicate (((rv.length : Nat) : Int)).toNat [V.ref t]).flatten = List.replicate rv.length (V.ref t) := by
        rw [Int.toNat_natCast]
        have : ∀ n : Nat, (List.replicate n [V.ref t]).flatten = List.replicate n (V.ref t) := fun n => by
          induction n with
          | zero => rfl
          | succ n ih => rw [List.replicate_succ, List.flatten_cons, ih]; rfl
        exact this _
      rw [erep]
      have s8 : Same H5 (upd H5 p (.lst (List.replicate rv.length (V.ref t)))) := Same.new np
      have gP : Ls (upd H5 p (.lst (List.replicate rv.length (V.ref t)))) p (List.replicate row.length (Tup.mk [(-1 : Int), 0, 1])) := by
        refine ⟨_, upd_same, ?_⟩
        have : ∀ n : Nat, HoA (upd H5 p (.lst (List.replicate rv.length (V.ref t)))) (List.replicate n (V.ref t)) (List.replicate n (Tup.mk [(-1 : Int), 0, 1])) := fun n => by
          induction n with
          | zero => exact HoA.nil
          | succ n ih => exact HoA.cons (gT2.up s8) ih
        rw [← rvl]
        exact this _
      have s48 := Same.trans s7 s8
      have efd8 := s8 _ _ efd
      generalize upd H5 p (.lst (List.replicate rv.length (V.ref t))) = H6 at s8 gP s48 efd8 ⊢
      refine ⟨p, _, rfl, gP, by rw [List.length_replicate]; omega, fun t1 ht1 => ?_, fun q3 H7 s9 n9 h9 => ?_⟩
      · rw [List.eq_of_mem_replicate ht1]
        exact ⟨by decide, by decide⟩
      have eans : (allRows ((List.replicate row.length (Tup.mk [(-1 : Int), 0, 1])).map (fun x => x.items))).map (Tup.mk (α := Int)) = (answersOf row.length).map Tup.mk := by
        rw [List.map_replicate]
        rfl
      rw [eans] at h9
      have s49 := Same.trans s48 s9
      obtain ⟨av, eav, gav⟩ := h9
      have avl : av.length = (answersOf row.length).length := by rw [gav.length, List.length_map]
      have ansl : (answersOf row.length).length ≤ 1024 := by
        unfold answersOf
        refine Nat.le_trans (allRows_length 0 5 _ (by rw [List.length_replicate]; omega) fun p hp => ?_) (by decide)
        rw [List.eq_of_mem_replicate hp]
        decide
      have totl : ∀ m, (((answersOf row.length).take m).flatMap fun a => givingOf h (row.zip a)).length ≤ 65536 := fun m => by
        have e1 : (((answersOf row.length).take m).flatMap fun a => givingOf h (row.zip a)) = (((answersOf row.length).take m).flatMap fun a => (worldsOf h).filter fun w => decide (tellsOf h w row = a)) :=
          fmap_congr fun a ha => giving_zip h row (answersOf_len _ (List.mem_of_mem_take ha))
        have sub : (((answersOf row.length).take m).flatMap fun a => (worldsOf h).filter fun w => decide (tellsOf h w row = a)).Sublist ((answersOf row.length).flatMap fun a => (worldsOf h).filter fun w => decide (tellsOf h w row = a)) := by
          conv => rhs; rw [← List.take_append_drop m (answersOf row.length)]
          rw [List.flatMap_append]
          exact List.sublist_append_left _ _
        rw [e1]
        refine Nat.le_trans sub.length_le ?_
        rw [(split_perm (fun w => tellsOf h w row) _ _ (answersOf_nodup _) fun w _ => tells_mem h w row).length_eq]
        exact worlds_len hk
      have hv7 := hv4.up s49
      have h27 := h24.up s49
      have h37 := h34.up s49
      have hb7 := hb4.up s49
      have k7 := k4.trans (Keep.of s49)
      have efd7 := s9 _ _ efd8
      -- the turns over the answers
      refine ⟨q3, rfl, ⟨av, SqL.of eav⟩, for_it (walk_list (K := K) (a := q3) (xs := av)) (fun m σ H' => ∃ (fnd : Addr) (y6 y7 : Option V), σ = [some (.ref a), some (.ref b), some v, some (.ref q1), some (.ref q2), some (.ref fnd), y6, y7, y8, y9, y10, y11, y12, y13, y14, y15, y16, none] ∧ Same H7 H' ∧ Ls H' fnd (((answersOf row.length).take m).flatMap fun a => givingOf h (row.zip a)))
        ⟨fd0, _, _, rfl, Same.refl _, [], efd7, HoA.nil⟩ (fun m σ H' _ ⟨_, _, _, _, s, _⟩ => SqL.of (s _ _ eav)) ?_ ?_⟩
      · rintro m x σ H8 H9 hm ⟨fnd, y6, y7, rfl, sA, us, eus, gus⟩ ⟨rfl, hx⟩
        have hx' : av[m]? = some x := hx
        obtain ⟨an0, ean, gan⟩ := (gav.up sA).back hx'
        rw [List.getElem?_map] at ean
        obtain ⟨an, ean', rfl⟩ : ∃ an, (answersOf row.length)[m]? = some an ∧ an0 = Tup.mk an := by
          cases e : (answersOf row.length)[m]? with
          | none => rw [e] at ean; cases ean
          | some an => rw [e] at ean; exact ⟨an, rfl, (Option.some.inj ean).symm⟩
        have anm := List.mem_of_getElem? ean'
        have anl := answersOf_len _ anm
        obtain ⟨at_, avs, rfl, hat, havs⟩ := ho_tup gan
        have hv9 := hv7.up sA
        obtain ⟨rv9, erv9, grv9⟩ := h37.up sA
        refine ⟨_, rfl, _, rfl, _, rfl, q2, at_, rv9, avs, rfl, SqL.of erv9, SqT.of hat, fun D Ts HA s1 nD eD lTs hTs => ?_⟩
        have gD : Ls HA D (row.zip an) := ⟨_, eD, zip_ho lTs (grv9.up s1) (havs.up s1) hTs⟩
        have hsok : SeenOk h (row.zip an) := by
          refine ⟨by rw [List.length_zip]; omega, fun pr hpr => ?_⟩
          obtain ⟨z1, z2⟩ := List.of_mem_zip (show (pr.1, pr.2) ∈ row.zip an from hpr)
          refine ⟨hok3 _ z1, ?_⟩
          unfold answersOf at anm
          rw [allRows_eq] at anm
          obtain ⟨i, hi⟩ := List.mem_iff_getElem?.mp z2
          have il := (List.getElem?_eq_some_iff.mp hi).1
          have := (mem_rowsF anm).2 i pr.2 [-1, 0, 1] hi (by rw [List.getElem?_replicate, if_pos (by omega)])
          simp at this
          omega
        refine ⟨_, D, h, _, rfl, hv9.up s1, gD, hk, hsok, fun q4 HB sB nB hB => ?_⟩
        have s1B := Same.trans s1 sB
        obtain ⟨lv, elv, glv⟩ := hB
        refine ⟨_, rfl, _, rfl, fnd, q4, us, lv, rfl, rfl, s1B _ _ eus, elv, ?_, fun f2 nf2 => ?_⟩
        · rw [gus.length, glv.length]
          have := totl m
          have := giving_len hk (row.zip an)
          exact small_le (by omega)
        have sC : Same HB (upd HB f2 (.lst (us ++ lv))) := Same.new nf2
        have gF : Ls (upd HB f2 (.lst (us ++ lv))) f2 (((answersOf row.length).take (m + 1)).flatMap fun a => givingOf h (row.zip a)) := by
          refine ⟨_, upd_same, ?_⟩
          rw [List.take_add_one, ean', Option.toList_some, List.flatMap_append, List.flatMap_singleton]
          exact ((gus.up s1B).up sC).append (glv.up sC)
        have elv2 := sC _ _ elv
        have glv2 := glv.up sC
        have s1C := Same.trans s1B sC
        generalize upd HB f2 (.lst (us ++ lv)) = HC at sC gF elv2 glv2 s1C ⊢
        refine ⟨_, rfl, q4, rfl, ⟨lv, SqL.of elv2⟩, fun D3 hD3 => ?_⟩
        refine lc_seq (walk_list (K := K) (a := q4) (xs := lv)) hD3 (fun _ => some true) glv2 (by have := giving_len hk (row.zip an); omega) (fun H s => SqL.of (s _ _ elv2)) ?_ ?_
        · intro wd u HD P1 P0 hwd sD hu hP _
          have hw' := hwd
          rw [giving_zip h row anl] at hw'
          obtain ⟨w1, w2⟩ := List.mem_filter.mp hw'
          have sAD := Same.trans s1C sD
          refine ⟨rfl, yes ?_⟩
          refine ⟨_, rfl, _, rfl, _, rfl, v, u, q2, h, wd, row, rfl, hv9.up sAD, hu, (h37.up sA).up sAD, hk, world_ok hk w1, hrow, fun q7 HE sE nE hE => ?_⟩
          refine ⟨_, rfl, at_, avs, rfl, .inr (SqT.of (sE _ _ (sAD _ _ hat))), fun l2 nl2 => ?_⟩
          have sl2 := Same.new (o := HO.lst avs) nl2
          have gl2 : Ls (upd HE l2 (.lst avs)) l2 an := ⟨_, upd_same, ((havs.up sAD).up sE).up sl2⟩
          refine ⟨_, _, (hE.up sl2).dp, gl2.dp, ?_⟩
          rw [w2]
          exact hP _ _ true (Same.trans sE sl2) rfl (Ho.bl true)
        · rintro HD sD ⟨bv, ebv, gbv⟩
          refine ⟨D3, _, rfl, SqL.of (by rw [ebv, gbv.bls]), ?_⟩
          rw [all_true]
          refine ⟨true, rfl, iteF ?_⟩
          exact ⟨f2, _, _, rfl, Same.trans sA (Same.trans s1C sD), gF.up sD⟩
      · rintro σ H8 ⟨fnd, y6, y7, rfl, sA, hfnd⟩
        rw [avl, List.take_length] at hfnd
        have hv8 := hv7.up sA
        have h28 := h27.up sA
        have hb8 := hb7.up sA
        have k8 := k7.trans (Keep.of sA)
        have htot : ((answersOf row.length).flatMap fun a => givingOf h (row.zip a)).length ≤ 65536 := by
          have := totl (answersOf row.length).length
          rwa [List.take_length] at this
        refine ⟨_, rfl, fnd, _, rfl, hfnd, ord_all _, wld_sortable _, by omega, fun p1 H9 s9 n9 g9 => ?_⟩
        rw [found_sorted hk row] at g9
        have h29 := h28.up s9
        refine ⟨_, rfl, _, _, g9.dp, h29.dp, _, rfl, iteF' (decide_eq_false (fun z => z rfl)) ?_⟩
        have hb9 := hb8.up s9
        have k9 := k8.trans (Keep.of s9)
        have hv9 := hv8.up s9
        -- the record
        refine ⟨_, rfl, _, rfl, b, v, h, rfl, hb9, hv9, hk, fun q5 HA seen kA hbA nA hA hseen => ?_⟩
        have q5b := hb9.fresh nA
        refine ⟨_, rfl, sm 2 (by decide), fun T nT => ?_⟩
        have sB : Same HA (upd HA T (.tup [.ref q5, .ref q1])) := Same.new nT
        refine ⟨T, _, rfl, SqT.of upd_same, rfl, _, _, rfl, _, _, rfl, rfl, ?_⟩
        have hvB := (hv9.keep kA hb9).up sB
        have h2B := (h29.keep kA hb9 q1b).up sB
        have hB := hA.up sB
        have hbB := hbA.up sB
        have kB := (k9.trans kA).trans (Keep.of sB)
        generalize upd HA T (.tup [.ref q5, .ref q1]) = HB at hvB h2B hB hbB kB ⊢
        have hsl := hseen.1
        obtain ⟨sv, esv, gsv⟩ := id hB
        have svl : sv.length = seen.length := gsv.length
        -- the prefixes
        refine ⟨_, rfl, q5, sv, rfl, .inl (SqL.of esv), _, _, rfl, rfl, ((sv.length : Nat) : Int) + 1, rfl, by omega, by omega, for_range (n := (((sv.length : Nat) : Int) + 1).toNat) (fun i σ H' => ∃ (bf : Addr) (y10 y11 : Option V), σ = [some (.ref a), some (.ref b), some v, some (.ref q1), some (.ref q2), some (.ref fnd), y6, y7, some (.ref q5), some (.ref bf), y10, y11, y12, y13, y14, y15, y16, none] ∧ Same HB H' ∧ Ls H' bf (givingOf h (seen.take (i - 1))))
          ⟨q1, _, _, rfl, Same.refl _, by rw [List.take_zero, giving_nil]; exact h2B⟩ ?_ ?_⟩
        · rintro i σ HC hi ⟨bf, y10, y11, rfl, sC, hbf⟩
          have hil : i ≤ seen.length := by omega
          obtain ⟨sv2, esv2, gsv2⟩ := hB.up sC
          have sv2l : sv2.length = seen.length := gsv2.length
          refine ⟨_, rfl, _, rfl, _, rfl, _, rfl, q5, sv2, rfl, SqL.of esv2, fun l nl => ?_⟩
          rw [Int.zero_add, cut_take (by omega)]
          have sl := Same.new (o := HO.lst (sv2.take i)) nl
          have gl : Ls (upd HC l (.lst (sv2.take i))) l (seen.take i) := ⟨_, upd_same, (gsv2.take i).up sl⟩
          have hsi : SeenOk h (seen.take i) := ⟨by rw [List.length_take]; omega, fun p hp => hseen.2 p (List.mem_of_mem_take hp)⟩
          refine ⟨_, l, h, _, rfl, (hvB.up sC).up sl, gl, hk, hsi, fun q6 HD sD nD hD => ?_⟩
          have sCD := Same.trans sl sD
          obtain ⟨ov, eov, gov⟩ := id hD
          refine ⟨_, rfl, q6, rfl, ⟨ov, SqL.of eov⟩, fun D3 hD3 => ?_⟩
          refine lc_seq (walk_list (K := K) (a := q6) (xs := ov)) hD3 (fun _ => some true) gov (by have := giving_len hk (seen.take i); omega) (fun H s => SqL.of (s _ _ eov)) ?_ ?_
          · intro wd u HE P1 P0 hwd sE hu hP _
            refine ⟨rfl, yes ?_⟩
            refine ⟨_, rfl, _, rfl, wd, _, hu.dp, ((hbf.up sCD).up sE).dp, ?_⟩
            have kd : ∀ d : Decidable (wd ∈ givingOf h (seen.take (i - 1))), @decide _ d = true := fun d => @decide_eq_true _ d (giving_less h seen (Nat.sub_le i 1) hwd)
            rw [kd]
            exact hP _ _ true (Same.refl _) rfl (Ho.bl true)
          · rintro HE sE ⟨bv, ebv, gbv⟩
            refine ⟨D3, _, rfl, SqL.of (by rw [ebv, gbv.bls]), ?_⟩
            rw [all_true]
            refine ⟨true, rfl, iteF ?_⟩
            exact ⟨_, rfl, q6, _, _, rfl, Same.trans sC (Same.trans sCD sE), hD.up sE⟩
        · rintro σ HC ⟨bf, y10, y11, rfl, sC, hbf⟩
          have ei : (((sv.length : Nat) : Int) + 1).toNat - 1 = seen.length := by omega
          rw [ei, List.take_length] at hbf
          have hvC := hvB.up sC
          have hSC := hB.up sC
          have h2C := h2B.up sC
          have hbC := hbB.up sC
          have kC := kB.trans (Keep.of sC)
          -- the weights that are left
          refine ⟨_, rfl, _, rfl, v, q5, h, seen, rfl, hvC, hSC, hk, hseen, fun q6 HD sD nD hD => ?_⟩
          obtain ⟨lv, elv, glv⟩ := hD
          refine ⟨q6, lv, rfl, SqL.of elv, for_it (walk_enum (K := K) (a := q6) (xs := lv)) (fun i σ H' => ∃ (y12 y13 y14 : Option V), σ = [some (.ref a), some (.ref b), some v, some (.ref q1), some (.ref q2), some (.ref fnd), y6, y7, some (.ref q5), some (.ref bf), y10, y11, y12, y13, y14, y15, y16, none] ∧ Same HD H')
            ⟨_, _, _, rfl, Same.refl _⟩ (fun i σ H' _ ⟨_, _, _, _, s⟩ => SqL.of (s _ _ elv)) ?_ ?_⟩
          · rintro i x σ HE HF hi ⟨y12, y13, y14, rfl, sE⟩ ⟨T1, x1, x2, rfl, nT1, rfl, e1, e2⟩
            cases e1
            have e2' : lv[i]? = some x2 := e2
            obtain ⟨el, eel, gel⟩ := (glv.up sE).back e2'
            obtain ⟨t, et, rfl⟩ := wLeft_at eel
            obtain ⟨tp, z1, z2, rfl, htp, hz1, hz2⟩ := ho_pair gel
            obtain ⟨tz, zs, rfl, htz, hzs⟩ := ho_tup hz2
            have s1 : Same HE (upd HE T1 (.tup [.int (i : Nat), .ref tp])) := Same.new nT1
            refine ⟨T1, _, rfl, SqT.of upd_same, rfl, _, _, rfl, _, _, rfl, ⟨tp, _, rfl, SqT.of (s1 _ _ htp), rfl, _, _, rfl, _, _, rfl, rfl, rfl, ?_⟩⟩
            have sD1 := Same.trans (Same.trans sD sE) s1
            obtain ⟨bv, ebv, gbv⟩ := hbf.up sD1
            refine ⟨_, rfl, bf, rfl, ⟨bv, SqL.of ebv⟩, fun D4 hD4 => ?_⟩
            refine lc_seq (walk_list (K := K) (a := bf) (xs := bv)) hD4 (fun w : Wld => w.1.items[i]?) gbv (by have := giving_len hk seen; omega) (fun H s => SqL.of (s _ _ ebv)) ?_ ?_
            · intro wd u HG P1 P0 hwd sG hu hP _
              obtain ⟨b4, x4, y4, rfl, hb4', hx4, hy4⟩ := ho_pair hu
              obtain ⟨bx, us4, rfl, hbx, hus4⟩ := ho_tup hx4
              obtain ⟨m, em, hmm⟩ := world_w (List.mem_filter.mp hwd).1 et
              obtain ⟨um, eum, hum⟩ := hus4.at em
              refine ⟨rfl, yes ⟨_, rfl, b4, _, 0, _, rfl, rfl, SqT.of hb4', atI_nat (j := 0) rfl, _, rfl, bx, _, (i : Nat), _, rfl, rfl, SqT.of hbx, atI_nat (j := i) eum, ?_⟩⟩
              exact hP _ _ m (Same.refl _) em hum
            · intro HG sG hG
              have hwt := hk.wts t (List.mem_of_getElem? et)
              refine ⟨D4, _, t.2.items, rfl, hG, by omega, fun x hx => ?_, fun sa HI cc sI eI hcc => ?_⟩
              · obtain ⟨wd, hwd, e⟩ := List.mem_filterMap.mp hx
                obtain ⟨m, em, hmm⟩ := world_w (List.mem_filter.mp hwd).1 et
                rw [em] at e
                cases e
                exact hmm
              · refine ⟨sa, _, cc, rfl, eI, hcc, fun ns2 p2 pw mem2 _ np2 => ?_⟩
                have sp2 := Same.new (o := HO.lst (ns2.map V.int)) np2
                have gp2 : Ls (upd HI p2 (.lst (ns2.map V.int))) p2 ns2 := ⟨_, upd_same, HoA.ofInts ns2⟩
                have eM := wAt_is (seen := seen) hk et pw fun x => by rw [mem2 x]; exact decide_eq_true_iff
                have sEJ := Same.trans (Same.trans s1 sG) (Same.trans sI sp2)
                generalize upd HI p2 (.lst (ns2.map V.int)) = HJ at gp2 sEJ ⊢
                refine ⟨_, rfl, tz, zs, rfl, .inr (SqT.of (sEJ _ _ htz)), fun l3 nl3 => ?_⟩
                have sl3 := Same.new (o := HO.lst zs) nl3
                have gl3 : Ls (upd HJ l3 (.lst zs)) l3 (t.2.items.filter fun one => (givingOf h seen).any fun w => decide (w.1.items[i]? = some one)) := ⟨_, upd_same, (hzs.up sEJ).up sl3⟩
                refine ⟨_, _, (gp2.up sl3).dp, gl3.dp, _, rfl, iteF' (decide_eq_false (fun z => z eM)) ?_⟩
                exact ⟨_, _, _, rfl, Same.trans sE (Same.trans sEJ sl3)⟩
          · rintro σ HE ⟨y12, y13, y14, rfl, sE⟩
            have sDE := Same.trans sD sE
            have hvE := hvC.up sDE
            have hSE := hSC.up sDE
            have hbfE := hbf.up sDE
            -- the sorts that are left
            refine ⟨_, rfl, _, rfl, v, q5, h, seen, rfl, hvE, hSE, hk, hseen, fun q7 HF sF nF hF => ?_⟩
            obtain ⟨kv, ekv, gkv⟩ := hF
            refine ⟨q7, kv, rfl, SqL.of ekv, for_it (walk_enum (K := K) (a := q7) (xs := kv)) (fun i σ H' => ∃ (y12 y13 y15 : Option V), σ = [some (.ref a), some (.ref b), some v, some (.ref q1), some (.ref q2), some (.ref fnd), y6, y7, some (.ref q5), some (.ref bf), y10, y11, y12, y13, y14, y15, y16, none] ∧ Same HF H')
              ⟨_, _, _, rfl, Same.refl _⟩ (fun i σ H' _ ⟨_, _, _, _, s⟩ => SqL.of (s _ _ ekv)) ?_ ?_⟩
            · rintro i x σ HG HG' hi ⟨y12, y13, y15, rfl, sG⟩ ⟨T1, x1, x2, rfl, nT1, rfl, e1, e2⟩
              cases e1
              have e2' : kv[i]? = some x2 := e2
              obtain ⟨el, eel, gel⟩ := (gkv.up sG).back e2'
              obtain ⟨t, et, rfl⟩ := sLeft_at eel
              obtain ⟨tp, z1, z2, rfl, htp, hz1, hz2⟩ := ho_pair gel
              obtain ⟨tz, zs, rfl, htz, hzs⟩ := ho_tup hz2
              have s1 : Same HG (upd HG T1 (.tup [.int (i : Nat), .ref tp])) := Same.new nT1
              refine ⟨T1, _, rfl, SqT.of upd_same, rfl, _, _, rfl, _, _, rfl, ⟨tp, _, rfl, SqT.of (s1 _ _ htp), rfl, _, _, rfl, _, _, rfl, rfl, rfl, ?_⟩⟩
              have sD1 := Same.trans (Same.trans sF sG) s1
              obtain ⟨bv, ebv, gbv⟩ := hbfE.up sD1
              refine ⟨_, rfl, bf, rfl, ⟨bv, SqL.of ebv⟩, fun D4 hD4 => ?_⟩
              refine lc_seq (walk_list (K := K) (a := bf) (xs := bv)) hD4 (fun w : Wld => w.2.items[i]?) gbv (by have := giving_len hk seen; omega) (fun H s => SqL.of (s _ _ ebv)) ?_ ?_
              · intro wd u HI P1 P0 hwd sI hu hP _
                obtain ⟨b4, x4, y4, rfl, hb4', hx4, hy4⟩ := ho_pair hu
                obtain ⟨bx, us4, rfl, hbx, hus4⟩ := ho_tup hy4
                obtain ⟨m, em, hmm⟩ := world_s (List.mem_filter.mp hwd).1 et
                obtain ⟨um, eum, hum⟩ := hus4.at em
                refine ⟨rfl, yes ⟨_, rfl, b4, _, 1, _, rfl, rfl, SqT.of hb4', atI_nat (j := 1) rfl, _, rfl, bx, _, (i : Nat), _, rfl, rfl, SqT.of hbx, atI_nat (j := i) eum, ?_⟩⟩
                exact hP _ _ m (Same.refl _) em hum
              · intro HI sI hI
                have hst := hk.srt t (List.mem_of_getElem? et)
                refine ⟨D4, _, t.2.items, rfl, hI, hst.2.1, fun x hx => ?_, fun sa HJ us7 sJ eJ hus7 nd7 mem7 => ?_⟩
                · obtain ⟨wd, hwd, e⟩ := List.mem_filterMap.mp hx
                  obtain ⟨m, em, hmm⟩ := world_s (List.mem_filter.mp hwd).1 et
                  rw [em] at e
                  cases e
                  exact hmm
                · refine ⟨sa, us7, rfl, eJ, hus7, fun p2 HK M sK pM gM => ?_⟩
                  have eM := sAt_is (seen := seen) (M := M) hk et (pM.nodup_iff.mpr nd7) fun x => by rw [pM.mem_iff]; exact mem7 x
                  rw [eM] at gM
                  have sEJ := Same.trans (Same.trans s1 sI) (Same.trans sJ sK)
                  refine ⟨_, rfl, tz, zs, rfl, .inr (SqT.of (sEJ _ _ htz)), fun l3 nl3 => ?_⟩
                  have sl3 := Same.new (o := HO.lst zs) nl3
                  have gl3 : Ls (upd HK l3 (.lst zs)) l3 (t.2.items.filter fun one => (givingOf h seen).any fun w => decide (w.2.items[i]? = some one)) := ⟨_, upd_same, (hzs.up sEJ).up sl3⟩
                  refine ⟨_, _, (gM.up sl3).dp, gl3.dp, _, rfl, iteF' (decide_eq_false (fun z => z rfl)) ?_⟩
                  exact ⟨_, _, _, rfl, Same.trans sG (Same.trans sEJ sl3)⟩
            · rintro σ HG ⟨y12, y13, y15, rfl, sG⟩
              have sFG := Same.trans sF sG
              have hvG := hvE.up sFG
              have hSG := hSE.up sFG
              have hbfG := hbfE.up sFG
              have h2G := (h2C.up sDE).up sFG
              have kG := (kC.trans (Keep.of sDE)).trans (Keep.of sFG)
              have TG : Tabs [(Pt, lamQ)] HG := Tabs.keep TS kG hb
              -- parted
              refine ⟨_, rfl, TG, q5, seen, rfl, hSG, by omega, fun q8 HH eN TH gH => ?_⟩
              have hvH : Ho HH v h := hvG.mono (ExtN.t eN)
              have h2H := h2G.extN eN
              have hbfH := hbfG.extN eN
              refine ⟨_, rfl, _, rfl, v, q8, h, partedOf seen, rfl, hvH, gH, hk, parted_ok hseen, fun q9 HI sI nI hI => ?_⟩
              rw [giving_parted] at hI
              refine ⟨_, rfl, _, _, hI.dp, (hbfH.up sI).dp, _, rfl, iteF' (decide_eq_false (fun z => z rfl)) ?_⟩
              refine ⟨_, rfl, sm 0 (by decide), fun l4 nl4 => ?_⟩
              have sl4 := Same.new (o := HO.lst []) nl4
              refine ⟨v, l4, h, [], rfl, (hvH.up sI).up sl4, Ls.new nl4 HoA.nil, hk, ⟨by decide, fun _ z => (by cases z)⟩, fun qb HJ sJ nJ hJ => ?_⟩
              rw [giving_nil] at hJ
              have sIJ := Same.trans sI (Same.trans sl4 sJ)
              refine ⟨_, rfl, _, _, hJ.dp, (h2H.up sIJ).dp, _, rfl, iteF' (decide_eq_false (fun z => z rfl)) ?_⟩
              refine ⟨_, _, _, _, _, _, _, _, _, _, _, _, _, _, _, _, rfl, ?_, TH.ext sIJ, fun j b' hj ebj => ?_⟩
              · exact sIJ _ _ (eN _ _ (kG _ _ q0b eq0) fun _ z => nomatch z)
              · have nbb : b' ≠ b := fun z => by
                  rw [z] at ebj
                  have := nd_ix nb ebj eb
                  omega
                exact (((hbags j b' (by omega) ebj).keep kG hb nbb).extN eN).up sIJ
    · rintro σ H1 ⟨y1, y2, y3, y4, y5, y6, y7, y8, y9, y10, y11, y12, y13, y14, y15, y16, rfl, _⟩
      exact q H1
end
end Sly

set_option Elab.async false
set_option linter.all false
set_option maxRecDepth 100000
set_option maxHeartbeats 4000000
/-! What the top has written, the head. Printed by gen_end.py. -/
namespace Sly
open PySem PySem.Spec PyProof.Rows L2 LamX
open PySem.W (Datum DatumOrd Tup T3 dataLe)
/-- a def as the top has written it -/
def FnX (K : PySem.W.Frag) (mg : Str → Option Value) (x : Str) (st : Stmt) (ps : List Str) : Prop :=
  ∃ (f : Addr) (fd : FuncData), Fun K x x st f fd ∧ PySem.W.keepIn K (.ref f) = true ∧ Binds K fd ps [] ∧ mg x = some (.ref f)
/-- the parameters bind -/
def Bnd (x : Str) (st : Stmt) (ps : List Str) : Prop :=
  ∀ (kV doc pm : Value) (an : Option Addr) (cdv ct : Value) (us : List Value), us.length = ps.length → bindArgs (PySem.W.fnOf x x (defArgs st) (defBody st) (defScope st) .none kV doc pm an cdv ct) ⟨us, []⟩ = pure (ps.zip us)
theorem fnX {K : PySem.W.Frag} {h : Heap} {mg : Str → Option Value} {x : Str} {st : Stmt} {ps : List Str} {f : Addr} {oc : Value} {od an : Option Addr} {osl : Array (Option Value)} {kV doc pm cdv ct : Value} (X : K.In h) (G : h.Ns mainGlobals mg) (b : Bnd x st ps)
    (a : PySem.W.nsIn K mainGlobals x = some (some (.ref f))) (l : K.lookup f = some ⟨oc, od, .func (PySem.W.fnOf x x (defArgs st) (defBody st) (defScope st) .none kV doc pm an cdv ct), osl⟩)
    (c : PySem.W.codeIn K cdv x = true) (k : PySem.W.keepIn K (.ref f) = true) : FnX K mg x st ps := by
  have F := fun_mk (st := st) l c k
  exact ⟨f, _, F, k, F.binds (ps := ps) b, PySem.W.mg_of X G a⟩

theorem bnd_within : Bnd "is_within" sIsWithin ["thing", "low", "high"] := fun _ _ _ _ _ _ us hl => match us, hl with | [_, _, _], _ => rfl
theorem bnd_rises : Bnd "rises" sRises ["row"] := fun _ _ _ _ _ _ us hl => match us, hl with | [_], _ => rfl
theorem bnd_arows : Bnd "all_rows" sAllRows ["parts"] := fun _ _ _ _ _ _ us hl => match us, hl with | [_], _ => rfl
theorem bnd_worlds : Bnd "worlds" sWorlds ["house"] := fun _ _ _ _ _ _ us hl => match us, hl with | [_], _ => rfl
theorem bnd_things : Bnd "are_things" sAreThings ["house", "thing"] := fun _ _ _ _ _ _ us hl => match us, hl with | [_, _], _ => rfl
theorem bnd_weighing : Bnd "is_weighing" sIsWeighing ["house", "thing"] := fun _ _ _ _ _ _ us hl => match us, hl with | [_, _], _ => rfl
theorem bnd_sign : Bnd "sign" sSign ["number"] := fun _ _ _ _ _ _ us hl => match us, hl with | [_], _ => rfl
theorem bnd_outw : Bnd "outweighs" sOutweighs ["house", "world", "weighing"] := fun _ _ _ _ _ _ us hl => match us, hl with | [_, _, _], _ => rfl
theorem bnd_answer : Bnd "answer" sAnswer ["house", "world", "ahead", "weighing"] := fun _ _ _ _ _ _ us hl => match us, hl with | [_, _, _, _], _ => rfl
theorem bnd_tells : Bnd "tells" sTells ["house", "world", "row"] := fun _ _ _ _ _ _ us hl => match us, hl with | [_, _, _], _ => rfl
theorem bnd_pair : Bnd "is_pair" sIsPair ["house", "thing"] := fun _ _ _ _ _ _ us hl => match us, hl with | [_, _], _ => rfl
theorem bnd_seen : Bnd "is_seen" sIsSeen ["house", "thing"] := fun _ _ _ _ _ _ us hl => match us, hl with | [_, _], _ => rfl
theorem bnd_need : Bnd "need_seen" sNeedSeen ["house", "seen"] := fun _ _ _ _ _ _ us hl => match us, hl with | [_, _], _ => rfl
theorem bnd_giving : Bnd "giving" sGiving ["house", "seen"] := fun _ _ _ _ _ _ us hl => match us, hl with | [_, _], _ => rfl
theorem bnd_fitting : Bnd "fitting" sFitting ["house", "seen"] := fun _ _ _ _ _ _ us hl => match us, hl with | [_, _], _ => rfl
theorem bnd_wleft : Bnd "weights_left" sWeightsLeft ["house", "seen"] := fun _ _ _ _ _ _ us hl => match us, hl with | [_, _], _ => rfl
theorem bnd_sleft : Bnd "sorts_left" sSortsLeft ["house", "seen"] := fun _ _ _ _ _ _ us hl => match us, hl with | [_, _], _ => rfl
theorem bnd_cellat : Bnd "_law_cell_at" sLawCellAt ["script", "k"] := fun _ _ _ _ _ _ us hl => match us, hl with | [_, _], _ => rfl
theorem bnd_draws : Bnd "_law_draws" sLawDraws ["cell", "many", "size"] := fun _ _ _ _ _ _ us hl => match us, hl with | [_, _, _], _ => rfl
theorem bnd_bag : Bnd "_law_bag" sLawBag ["script", "k"] := fun _ _ _ _ _ _ us hl => match us, hl with | [_, _], _ => rfl
theorem bnd_bags : Bnd "_law_bags" sLawBags ["script", "limit"] := fun _ _ _ _ _ _ us hl => match us, hl with | [_, _], _ => rfl
theorem bnd_take : Bnd "_law_take" sLawTake ["bag", "many"] := fun _ _ _ _ _ _ us hl => match us, hl with | [_, _], _ => rfl
theorem bnd_sorts : Bnd "_law_sorts" sLawSorts ["bag", "limit", "far"] := fun _ _ _ _ _ _ us hl => match us, hl with | [_, _, _], _ => rfl
theorem bnd_house : Bnd "_law_house" sLawHouse ["bag", "bound", "far"] := fun _ _ _ _ _ _ us hl => match us, hl with | [_, _, _], _ => rfl
theorem bnd_wgh : Bnd "_law_weighing" sLawWeighing ["bag", "house"] := fun _ _ _ _ _ _ us hl => match us, hl with | [_, _], _ => rfl
theorem bnd_row : Bnd "_law_row" sLawRow ["bag", "house", "limit"] := fun _ _ _ _ _ _ us hl => match us, hl with | [_, _, _], _ => rfl
theorem bnd_rowsof : Bnd "_law_rows_of" sLawRowsOf ["parts"] := fun _ _ _ _ _ _ us hl => match us, hl with | [_], _ => rfl
theorem bnd_lworlds : Bnd "_law_worlds" sLawWorlds ["house"] := fun _ _ _ _ _ _ us hl => match us, hl with | [_], _ => rfl
theorem bnd_lsign : Bnd "_law_sign" sLawSign ["number"] := fun _ _ _ _ _ _ us hl => match us, hl with | [_], _ => rfl
theorem bnd_lmore : Bnd "_law_more" sLawMore ["house", "world", "weighing"] := fun _ _ _ _ _ _ us hl => match us, hl with | [_, _, _], _ => rfl
theorem bnd_ltells : Bnd "_law_tells" sLawTells ["house", "world", "row"] := fun _ _ _ _ _ _ us hl => match us, hl with | [_, _, _], _ => rfl
theorem bnd_lseen : Bnd "_law_seen" sLawSeen ["bag", "house", "limit"] := fun _ _ _ _ _ _ us hl => match us, hl with | [_, _, _], _ => rfl
theorem all_mk {l : PySem.W.OpenLaw} {w : PySem.World} {K : PySem.W.Frag} {h : Heap} {mg : Str → Option Value} {fa f c : Addr} {od an : Option Addr} {sl : Array (Option Value)} {oc kV dc pm ct : Value} {tk : Tok} (Pt : Addr) (X : K.In h) (G : h.Ns mainGlobals mg) (hfa : mg "law" = some (.ref fa))
    (aw : PySem.W.nsIn K mainGlobals "law" = some (some (.ref f))) (lw : K.lookup f = some ⟨oc, od, .func (PySem.W.fnOf "law" "law" (defArgs sLaw) (defBody sLaw) (defScope sLaw) .none kV dc pm an (.ref c) ct), sl⟩) (cw : PySem.W.codeIn K (.ref c) "law" = true) (kw : PySem.W.keepIn K (.ref f) = true)
    (hd : PySem.W.codeHdIn K c Pt = true) (nP : K.lookup Pt = none) (tP : h.get? Pt = some (PySem.W.tabObj #[])) (zL : PySem.W.nsIn K mainGlobals "LONGEST" = some (some (.int 12 tk)))
    (z_isinstance : PySem.W.nsIn K mainGlobals "isinstance" = some none) (z_int : PySem.W.nsIn K mainGlobals "int" = some none) (z_bool : PySem.W.nsIn K mainGlobals "bool" = some none) (z_str : PySem.W.nsIn K mainGlobals "str" = some none) (z_tuple : PySem.W.nsIn K mainGlobals "tuple" = some none) (z_list : PySem.W.nsIn K mainGlobals "list" = some none) (z_len : PySem.W.nsIn K mainGlobals "len" = some none) (z_all : PySem.W.nsIn K mainGlobals "all" = some none) (z_any : PySem.W.nsIn K mainGlobals "any" = some none) (z_zip : PySem.W.nsIn K mainGlobals "zip" = some none) (z_dict : PySem.W.nsIn K mainGlobals "dict" = some none) (z_sum : PySem.W.nsIn K mainGlobals "sum" = some none) (z_abs : PySem.W.nsIn K mainGlobals "abs" = some none) (z_enumerate : PySem.W.nsIn K mainGlobals "enumerate" = some none) (z_sorted : PySem.W.nsIn K mainGlobals "sorted" = some none) (z_set : PySem.W.nsIn K mainGlobals "set" = some none) (z_range : PySem.W.nsIn K mainGlobals "range" = some none) (z_max : PySem.W.nsIn K mainGlobals "max" = some none) (z_min : PySem.W.nsIn K mainGlobals "min" = some none)
    (x_within : FnX K mg "is_within" sIsWithin ["thing", "low", "high"])
    (x_rises : FnX K mg "rises" sRises ["row"])
    (x_arows : FnX K mg "all_rows" sAllRows ["parts"])
    (x_worlds : FnX K mg "worlds" sWorlds ["house"])
    (x_things : FnX K mg "are_things" sAreThings ["house", "thing"])
    (x_weighing : FnX K mg "is_weighing" sIsWeighing ["house", "thing"])
    (x_sign : FnX K mg "sign" sSign ["number"])
    (x_outw : FnX K mg "outweighs" sOutweighs ["house", "world", "weighing"])
    (x_answer : FnX K mg "answer" sAnswer ["house", "world", "ahead", "weighing"])
    (x_tells : FnX K mg "tells" sTells ["house", "world", "row"])
    (x_pair : FnX K mg "is_pair" sIsPair ["house", "thing"])
    (x_seen : FnX K mg "is_seen" sIsSeen ["house", "thing"])
    (x_need : FnX K mg "need_seen" sNeedSeen ["house", "seen"])
    (x_giving : FnX K mg "giving" sGiving ["house", "seen"])
    (x_fitting : FnX K mg "fitting" sFitting ["house", "seen"])
    (x_wleft : FnX K mg "weights_left" sWeightsLeft ["house", "seen"])
    (x_sleft : FnX K mg "sorts_left" sSortsLeft ["house", "seen"])
    (x_cellat : FnX K mg "_law_cell_at" sLawCellAt ["script", "k"])
    (x_draws : FnX K mg "_law_draws" sLawDraws ["cell", "many", "size"])
    (x_bag : FnX K mg "_law_bag" sLawBag ["script", "k"])
    (x_bags : FnX K mg "_law_bags" sLawBags ["script", "limit"])
    (x_take : FnX K mg "_law_take" sLawTake ["bag", "many"])
    (x_sorts : FnX K mg "_law_sorts" sLawSorts ["bag", "limit", "far"])
    (x_house : FnX K mg "_law_house" sLawHouse ["bag", "bound", "far"])
    (x_wgh : FnX K mg "_law_weighing" sLawWeighing ["bag", "house"])
    (x_row : FnX K mg "_law_row" sLawRow ["bag", "house", "limit"])
    (x_rowsof : FnX K mg "_law_rows_of" sLawRowsOf ["parts"])
    (x_lworlds : FnX K mg "_law_worlds" sLawWorlds ["house"])
    (x_lsign : FnX K mg "_law_sign" sLawSign ["number"])
    (x_lmore : FnX K mg "_law_more" sLawMore ["house", "world", "weighing"])
    (x_ltells : FnX K mg "_law_tells" sLawTells ["house", "world", "row"])
    (x_lseen : FnX K mg "_law_seen" sLawSeen ["bag", "house", "limit"])
    : LawAtS l w K CX0 8 63 "script" mg fa h := by
  have e := hfa.symm.trans (PySem.W.mg_of X G aw)
  cases e
  have B : Blt mg := ⟨PySem.W.mg_none_of X G z_isinstance, PySem.W.mg_none_of X G z_int, PySem.W.mg_none_of X G z_bool, PySem.W.mg_none_of X G z_str, PySem.W.mg_none_of X G z_tuple, PySem.W.mg_none_of X G z_list, PySem.W.mg_none_of X G z_len, PySem.W.mg_none_of X G z_all, PySem.W.mg_none_of X G z_any, PySem.W.mg_none_of X G z_zip, PySem.W.mg_none_of X G z_dict, PySem.W.mg_none_of X G z_sum, PySem.W.mg_none_of X G z_abs, PySem.W.mg_none_of X G z_enumerate, PySem.W.mg_none_of X G z_sorted, PySem.W.mg_none_of X G z_set, PySem.W.mg_none_of X G z_range, PySem.W.mg_none_of X G z_max, PySem.W.mg_none_of X G z_min⟩
  have gL := PySem.W.mg_of X G zL
  obtain ⟨f_within, fd_within, F_within, k_within, b_within, g_within⟩ := x_within
  obtain ⟨f_rises, fd_rises, F_rises, k_rises, b_rises, g_rises⟩ := x_rises
  obtain ⟨f_arows, fd_arows, F_arows, k_arows, b_arows, g_arows⟩ := x_arows
  obtain ⟨f_worlds, fd_worlds, F_worlds, k_worlds, b_worlds, g_worlds⟩ := x_worlds
  obtain ⟨f_things, fd_things, F_things, k_things, b_things, g_things⟩ := x_things
  obtain ⟨f_weighing, fd_weighing, F_weighing, k_weighing, b_weighing, g_weighing⟩ := x_weighing
  obtain ⟨f_sign, fd_sign, F_sign, k_sign, b_sign, g_sign⟩ := x_sign
  obtain ⟨f_outw, fd_outw, F_outw, k_outw, b_outw, g_outw⟩ := x_outw
  obtain ⟨f_answer, fd_answer, F_answer, k_answer, b_answer, g_answer⟩ := x_answer
  obtain ⟨f_tells, fd_tells, F_tells, k_tells, b_tells, g_tells⟩ := x_tells
  obtain ⟨f_pair, fd_pair, F_pair, k_pair, b_pair, g_pair⟩ := x_pair
  obtain ⟨f_seen, fd_seen, F_seen, k_seen, b_seen, g_seen⟩ := x_seen
  obtain ⟨f_need, fd_need, F_need, k_need, b_need, g_need⟩ := x_need
  obtain ⟨f_giving, fd_giving, F_giving, k_giving, b_giving, g_giving⟩ := x_giving
  obtain ⟨f_fitting, fd_fitting, F_fitting, k_fitting, b_fitting, g_fitting⟩ := x_fitting
  obtain ⟨f_wleft, fd_wleft, F_wleft, k_wleft, b_wleft, g_wleft⟩ := x_wleft
  obtain ⟨f_sleft, fd_sleft, F_sleft, k_sleft, b_sleft, g_sleft⟩ := x_sleft
  obtain ⟨f_cellat, fd_cellat, F_cellat, k_cellat, b_cellat, g_cellat⟩ := x_cellat
  obtain ⟨f_draws, fd_draws, F_draws, k_draws, b_draws, g_draws⟩ := x_draws
  obtain ⟨f_bag, fd_bag, F_bag, k_bag, b_bag, g_bag⟩ := x_bag
  obtain ⟨f_bags, fd_bags, F_bags, k_bags, b_bags, g_bags⟩ := x_bags
  obtain ⟨f_take, fd_take, F_take, k_take, b_take, g_take⟩ := x_take
  obtain ⟨f_sorts, fd_sorts, F_sorts, k_sorts, b_sorts, g_sorts⟩ := x_sorts
  obtain ⟨f_house, fd_house, F_house, k_house, b_house, g_house⟩ := x_house
  obtain ⟨f_wgh, fd_wgh, F_wgh, k_wgh, b_wgh, g_wgh⟩ := x_wgh
  obtain ⟨f_row, fd_row, F_row, k_row, b_row, g_row⟩ := x_row
  obtain ⟨f_rowsof, fd_rowsof, F_rowsof, k_rowsof, b_rowsof, g_rowsof⟩ := x_rowsof
  obtain ⟨f_lworlds, fd_lworlds, F_lworlds, k_lworlds, b_lworlds, g_lworlds⟩ := x_lworlds
  obtain ⟨f_lsign, fd_lsign, F_lsign, k_lsign, b_lsign, g_lsign⟩ := x_lsign
  obtain ⟨f_lmore, fd_lmore, F_lmore, k_lmore, b_lmore, g_lmore⟩ := x_lmore
  obtain ⟨f_ltells, fd_ltells, F_ltells, k_ltells, b_ltells, g_ltells⟩ := x_ltells
  obtain ⟨f_lseen, fd_lseen, F_lseen, k_lseen, b_lseen, g_lseen⟩ := x_lseen
  have FL := fun_mk (st := sLaw) lw cw kw
  refine ⟨PySem.W.fnOf "law" "law" (defArgs sLaw) (defBody sLaw) (defScope sLaw) .none kV dc pm an (.ref c) ct, [(c, Pt)], spLaw K Pt, ?_, ?_, ?_, fun s v => .of_eq rfl, ?_, ?_⟩
  · intro p hp
    obtain rfl := List.mem_singleton.mp hp
    exact tP
  · intro p hp
    obtain rfl := List.mem_singleton.mp hp
    exact nP
  · intro p hp
    obtain rfl := List.mem_singleton.mp hp
    exact PySem.W.codeHd_of_K X hd
  · intro H a ns _ _ hT hS
    exact ⟨a, ns, rfl, hS, hT (c, Pt) (List.mem_singleton.mpr rfl), fun _ => rfl⟩
  · intro base XB GB TB
    have O_within : FnOk l.prog w K mg base CX0 1 f_within fd_within ["thing", "low", "high"] spWithin := ok_within F_within B
    have O_rises : FnOk l.prog w K mg base CX0 1 f_rises fd_rises ["row"] spRises := ok_rises F_rises B
    have O_things : FnOk l.prog w K mg base CX0 2 f_things fd_things ["house", "thing"] spThings := ok_things F_things B O_rises k_rises b_rises g_rises
    have O_weighing : FnOk l.prog w K mg base CX0 3 f_weighing fd_weighing ["house", "thing"] spWeighing := ok_weighing F_weighing B O_things k_things b_things g_things
    have O_sign : FnOk l.prog w K mg base CX0 1 f_sign fd_sign ["number"] spSign := ok_sign F_sign B
    have O_outw : FnOk l.prog w K mg base CX0 1 f_outw fd_outw ["house", "world", "weighing"] spOut := ok_outweighs F_outw B
    have O_worlds : FnOk l.prog w K mg base CX0 2 f_worlds fd_worlds ["house"] spWorlds := ok_worlds F_worlds (fun α _ _ => ok_all_rows (α := α) F_arows) k_arows b_arows g_arows
    have O_answer : FnOk l.prog w K mg base CX0 2 f_answer fd_answer ["house", "world", "ahead", "weighing"] spAnswer := ok_answer F_answer B O_outw k_outw b_outw g_outw O_sign k_sign b_sign g_sign
    have O_tells : FnOk l.prog w K mg base CX0 3 f_tells fd_tells ["house", "world", "row"] spTells := ok_tells F_tells B O_answer k_answer b_answer g_answer
    have O_pair : FnOk l.prog w K mg base CX0 4 f_pair fd_pair ["house", "thing"] spPair := ok_pair F_pair B O_weighing k_weighing b_weighing g_weighing O_within k_within b_within g_within
    have O_seen : FnOk l.prog w K mg base CX0 5 f_seen fd_seen ["house", "thing"] spSeen := ok_seen F_seen B gL O_pair k_pair b_pair g_pair
    have O_need : FnOk l.prog w K mg base CX0 6 f_need fd_need ["house", "seen"] spNeed := ok_need F_need O_seen k_seen b_seen g_seen
    have O_giving : FnOk l.prog w K mg base CX0 4 f_giving fd_giving ["house", "seen"] spGiving := ok_giving F_giving B O_worlds k_worlds b_worlds g_worlds O_tells k_tells b_tells g_tells
    have O_fitting : FnOk l.prog w K mg base CX0 7 f_fitting fd_fitting ["house", "seen"] spGiving := ok_fitting F_fitting O_need k_need b_need g_need O_giving k_giving b_giving g_giving
    have O_wleft : FnOk l.prog w K mg base CX0 7 f_wleft fd_wleft ["house", "seen"] spWLeft := ok_wleft F_wleft B O_need k_need b_need g_need O_giving k_giving b_giving g_giving
    have O_sleft : FnOk l.prog w K mg base CX0 7 f_sleft fd_sleft ["house", "seen"] spSLeft := ok_sleft F_sleft B O_need k_need b_need g_need O_giving k_giving b_giving g_giving
    have O_cellat : FnOk l.prog w K mg base CX0 1 f_cellat fd_cellat ["script", "k"] (spCellAt (K := K)) := ok_cell_at F_cellat B
    have O_draws : FnOk l.prog w K mg base CX0 1 f_draws fd_draws ["cell", "many", "size"] spDraws := ok_draws F_draws B
    have O_bag : FnOk l.prog w K mg base CX0 2 f_bag fd_bag ["script", "k"] (spBag K) := ok_bag F_bag O_draws k_draws b_draws g_draws O_cellat k_cellat b_cellat g_cellat
    have O_bags : FnOk l.prog w K mg base CX0 3 f_bags fd_bags ["script", "limit"] (spBags K) := ok_bags F_bags B O_bag k_bag b_bag g_bag
    have O_take : FnOk l.prog w K mg base CX0 1 f_take fd_take ["bag", "many"] spTake := ok_take F_take B
    have O_sorts : FnOk l.prog w K mg base CX0 2 f_sorts fd_sorts ["bag", "limit", "far"] spSorts := ok_sorts F_sorts B O_take k_take b_take g_take
    have O_house : FnOk l.prog w K mg base CX0 3 f_house fd_house ["bag", "bound", "far"] spHouse := ok_house F_house B O_take k_take b_take g_take O_sorts k_sorts b_sorts g_sorts
    have O_wgh : FnOk l.prog w K mg base CX0 2 f_wgh fd_wgh ["bag", "house"] spWgh := ok_wgh F_wgh B O_take k_take b_take g_take
    have O_row : FnOk l.prog w K mg base CX0 3 f_row fd_row ["bag", "house", "limit"] spRow := ok_row F_row B O_take k_take b_take g_take O_wgh k_wgh b_wgh g_wgh
    have O_rowsof : FnOk l.prog w K mg base CX0 1 f_rowsof fd_rowsof ["parts"] (spRowsOf Int) := ok_rows_of (α := Int) F_rowsof B
    have O_lworlds : FnOk l.prog w K mg base CX0 2 f_lworlds fd_lworlds ["house"] spWorlds := ok_lworlds F_lworlds (fun α _ _ => ok_rows_of (α := α) F_rowsof B) k_rowsof b_rowsof g_rowsof
    have O_lsign : FnOk l.prog w K mg base CX0 1 f_lsign fd_lsign ["number"] spLSign := ok_lsign F_lsign B
    have O_lmore : FnOk l.prog w K mg base CX0 1 f_lmore fd_lmore ["house", "world", "weighing"] spOut := ok_lmore F_lmore B
    have O_ltells : FnOk l.prog w K mg base CX0 2 f_ltells fd_ltells ["house", "world", "row"] spLTells := ok_ltells F_ltells B O_lmore k_lmore b_lmore g_lmore O_lsign k_lsign b_lsign g_lsign
    have O_lseen : FnOk l.prog w K mg base CX0 4 f_lseen fd_lseen ["bag", "house", "limit"] spLSeen := ok_lseen F_lseen B O_take k_take b_take g_take O_row k_row b_row g_row O_lworlds k_lworlds b_lworlds g_lworlds O_ltells k_ltells b_ltells g_ltells
    exact ok_law FL rfl B (TB (c, Pt) (List.mem_singleton.mpr rfl)) ⟨⟨_, _, O_bags, k_bags, b_bags, g_bags⟩, ⟨_, _, O_house, k_house, b_house, g_house⟩, ⟨_, _, O_worlds, k_worlds, b_worlds, g_worlds⟩, ⟨_, _, O_row, k_row, b_row, g_row⟩, ⟨_, _, O_rowsof, k_rowsof, b_rowsof, g_rowsof⟩, ⟨_, _, O_fitting, k_fitting, b_fitting, g_fitting⟩, ⟨_, _, O_tells, k_tells, b_tells, g_tells⟩, ⟨_, _, O_lseen, k_lseen, b_lseen, g_lseen⟩, ⟨_, _, O_wleft, k_wleft, b_wleft, g_wleft⟩, ⟨_, _, O_sleft, k_sleft, b_sleft, g_sleft⟩⟩
end Sly

set_option Elab.async false
set_option linter.all false
set_option maxRecDepth 100000
open PySem PySem.W PyProof.Rows in
set_option maxRecDepth 100000 in
set_option maxHeartbeats 0 in
theorem PySem.Challenge.cw_slyscales_k06_whole_each_world_gives_one_holds : PySem.Challenge.rw_slyscales_k06_whole_each_world_gives_one.Holds := by
  w_on; o_law; k_head; (case hw => w_witness2)
  k_fill
  refine LamX.walk_ofTs (l := PySem.Challenge.rw_slyscales_k06_whole_each_world_gives_one) (n := 63) (k := 8) (x := "script") (CX := fun _ => L2.CX0) rfl (by decide) rfl ⟨rfl, by decide, by decide⟩ (fun w h Y => PySem.W.km_in_of Y) ?F (fun _ _ _ _ _ z => z)
  case F =>
    intro w mg fa h Y KX G hmg
    refine' Sly.all_mk 227 KX G hmg ?aw ?lw ?cw ?kw ?hd ?nP (PySem.W.km_tabs_of Y 227 (List.mem_singleton.mpr rfl)) ?zL ?z_isinstance ?z_int ?z_bool ?z_str ?z_tuple ?z_list ?z_len ?z_all ?z_any ?z_zip ?z_dict ?z_sum ?z_abs ?z_enumerate ?z_sorted ?z_set ?z_range ?z_max ?z_min (Sly.fnX KX G Sly.bnd_within ?a_within ?l_within ?c_within ?k_within) (Sly.fnX KX G Sly.bnd_rises ?a_rises ?l_rises ?c_rises ?k_rises) (Sly.fnX KX G Sly.bnd_arows ?a_arows ?l_arows ?c_arows ?k_arows) (Sly.fnX KX G Sly.bnd_worlds ?a_worlds ?l_worlds ?c_worlds ?k_worlds) (Sly.fnX KX G Sly.bnd_things ?a_things ?l_things ?c_things ?k_things) (Sly.fnX KX G Sly.bnd_weighing ?a_weighing ?l_weighing ?c_weighing ?k_weighing) (Sly.fnX KX G Sly.bnd_sign ?a_sign ?l_sign ?c_sign ?k_sign) (Sly.fnX KX G Sly.bnd_outw ?a_outw ?l_outw ?c_outw ?k_outw) (Sly.fnX KX G Sly.bnd_answer ?a_answer ?l_answer ?c_answer ?k_answer) (Sly.fnX KX G Sly.bnd_tells ?a_tells ?l_tells ?c_tells ?k_tells) (Sly.fnX KX G Sly.bnd_pair ?a_pair ?l_pair ?c_pair ?k_pair) (Sly.fnX KX G Sly.bnd_seen ?a_seen ?l_seen ?c_seen ?k_seen) (Sly.fnX KX G Sly.bnd_need ?a_need ?l_need ?c_need ?k_need) (Sly.fnX KX G Sly.bnd_giving ?a_giving ?l_giving ?c_giving ?k_giving) (Sly.fnX KX G Sly.bnd_fitting ?a_fitting ?l_fitting ?c_fitting ?k_fitting) (Sly.fnX KX G Sly.bnd_wleft ?a_wleft ?l_wleft ?c_wleft ?k_wleft) (Sly.fnX KX G Sly.bnd_sleft ?a_sleft ?l_sleft ?c_sleft ?k_sleft) (Sly.fnX KX G Sly.bnd_cellat ?a_cellat ?l_cellat ?c_cellat ?k_cellat) (Sly.fnX KX G Sly.bnd_draws ?a_draws ?l_draws ?c_draws ?k_draws) (Sly.fnX KX G Sly.bnd_bag ?a_bag ?l_bag ?c_bag ?k_bag) (Sly.fnX KX G Sly.bnd_bags ?a_bags ?l_bags ?c_bags ?k_bags) (Sly.fnX KX G Sly.bnd_take ?a_take ?l_take ?c_take ?k_take) (Sly.fnX KX G Sly.bnd_sorts ?a_sorts ?l_sorts ?c_sorts ?k_sorts) (Sly.fnX KX G Sly.bnd_house ?a_house ?l_house ?c_house ?k_house) (Sly.fnX KX G Sly.bnd_wgh ?a_wgh ?l_wgh ?c_wgh ?k_wgh) (Sly.fnX KX G Sly.bnd_row ?a_row ?l_row ?c_row ?k_row) (Sly.fnX KX G Sly.bnd_rowsof ?a_rowsof ?l_rowsof ?c_rowsof ?k_rowsof) (Sly.fnX KX G Sly.bnd_lworlds ?a_lworlds ?l_lworlds ?c_lworlds ?k_lworlds) (Sly.fnX KX G Sly.bnd_lsign ?a_lsign ?l_lsign ?c_lsign ?k_lsign) (Sly.fnX KX G Sly.bnd_lmore ?a_lmore ?l_lmore ?c_lmore ?k_lmore) (Sly.fnX KX G Sly.bnd_ltells ?a_ltells ?l_ltells ?c_ltells ?k_ltells) (Sly.fnX KX G Sly.bnd_lseen ?a_lseen ?l_lseen ?c_lseen ?k_lseen)
    (case aw => k_is)
    (case lw => k_is)
    (case cw => k_is)
    (case kw => k_is)
    (case hd => kernel_rfl)
    (case nP => kernel_rfl)
    (case zL => k_is)
    (case z_isinstance => k_is)
    (case z_int => k_is)
    (case z_bool => k_is)
    (case z_str => k_is)
    (case z_tuple => k_is)
    (case z_list => k_is)
    (case z_len => k_is)
    (case z_all => k_is)
    (case z_any => k_is)
    (case z_zip => k_is)
    (case z_dict => k_is)
    (case z_sum => k_is)
    (case z_abs => k_is)
    (case z_enumerate => k_is)
    (case z_sorted => k_is)
    (case z_set => k_is)
    (case z_range => k_is)
    (case z_max => k_is)
    (case z_min => k_is)
    (case a_within => k_is)
    (case l_within => k_is)
    (case c_within => k_is)
    (case k_within => k_is)
    (case a_rises => k_is)
    (case l_rises => k_is)
    (case c_rises => k_is)
    (case k_rises => k_is)
    (case a_arows => k_is)
    (case l_arows => k_is)
    (case c_arows => k_is)
    (case k_arows => k_is)
    (case a_worlds => k_is)
    (case l_worlds => k_is)
    (case c_worlds => k_is)
    (case k_worlds => k_is)
    (case a_things => k_is)
    (case l_things => k_is)
    (case c_things => k_is)
    (case k_things => k_is)
    (case a_weighing => k_is)
    (case l_weighing => k_is)
    (case c_weighing => k_is)
    (case k_weighing => k_is)
    (case a_sign => k_is)
    (case l_sign => k_is)
    (case c_sign => k_is)
    (case k_sign => k_is)
    (case a_outw => k_is)
    (case l_outw => k_is)
    (case c_outw => k_is)
    (case k_outw => k_is)
    (case a_answer => k_is)
    (case l_answer => k_is)
    (case c_answer => k_is)
    (case k_answer => k_is)
    (case a_tells => k_is)
    (case l_tells => k_is)
    (case c_tells => k_is)
    (case k_tells => k_is)
    (case a_pair => k_is)
    (case l_pair => k_is)
    (case c_pair => k_is)
    (case k_pair => k_is)
    (case a_seen => k_is)
    (case l_seen => k_is)
    (case c_seen => k_is)
    (case k_seen => k_is)
    (case a_need => k_is)
    (case l_need => k_is)
    (case c_need => k_is)
    (case k_need => k_is)
    (case a_giving => k_is)
    (case l_giving => k_is)
    (case c_giving => k_is)
    (case k_giving => k_is)
    (case a_fitting => k_is)
    (case l_fitting => k_is)
    (case c_fitting => k_is)
    (case k_fitting => k_is)
    (case a_wleft => k_is)
    (case l_wleft => k_is)
    (case c_wleft => k_is)
    (case k_wleft => k_is)
    (case a_sleft => k_is)
    (case l_sleft => k_is)
    (case c_sleft => k_is)
    (case k_sleft => k_is)
    (case a_cellat => k_is)
    (case l_cellat => k_is)
    (case c_cellat => k_is)
    (case k_cellat => k_is)
    (case a_draws => k_is)
    (case l_draws => k_is)
    (case c_draws => k_is)
    (case k_draws => k_is)
    (case a_bag => k_is)
    (case l_bag => k_is)
    (case c_bag => k_is)
    (case k_bag => k_is)
    (case a_bags => k_is)
    (case l_bags => k_is)
    (case c_bags => k_is)
    (case k_bags => k_is)
    (case a_take => k_is)
    (case l_take => k_is)
    (case c_take => k_is)
    (case k_take => k_is)
    (case a_sorts => k_is)
    (case l_sorts => k_is)
    (case c_sorts => k_is)
    (case k_sorts => k_is)
    (case a_house => k_is)
    (case l_house => k_is)
    (case c_house => k_is)
    (case k_house => k_is)
    (case a_wgh => k_is)
    (case l_wgh => k_is)
    (case c_wgh => k_is)
    (case k_wgh => k_is)
    (case a_row => k_is)
    (case l_row => k_is)
    (case c_row => k_is)
    (case k_row => k_is)
    (case a_rowsof => k_is)
    (case l_rowsof => k_is)
    (case c_rowsof => k_is)
    (case k_rowsof => k_is)
    (case a_lworlds => k_is)
    (case l_lworlds => k_is)
    (case c_lworlds => k_is)
    (case k_lworlds => k_is)
    (case a_lsign => k_is)
    (case l_lsign => k_is)
    (case c_lsign => k_is)
    (case k_lsign => k_is)
    (case a_lmore => k_is)
    (case l_lmore => k_is)
    (case c_lmore => k_is)
    (case k_lmore => k_is)
    (case a_ltells => k_is)
    (case l_ltells => k_is)
    (case c_ltells => k_is)
    (case k_ltells => k_is)
    (case a_lseen => k_is)
    (case l_lseen => k_is)
    (case c_lseen => k_is)
    (case k_lseen => k_is)
