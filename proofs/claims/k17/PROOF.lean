import PyProof.Rows.All
import Wide.All
import OpenK.AllK
import Wide.FinOn
import HandS.ForMost
import HandS.IsInst
import HandS.Zip
import HandS.Wide
import HandS.Flow
import HandS.Conv
import HandS.SortInts
import HandS.Steps
import HandS.Evl
import HandS.Rev
import HandS.More
import HandS.DictComp
import HandS.DictTup
import PyProof.ListRange
import PySem.Challenge.RW_tellsasleep_k17_made_and_ways_around
set_option Elab.async false
set_option linter.all false
set_option maxRecDepth 100000
/-! LWBase: small words over the hand layer for all laws: heaps, data, the steps of a reading. -/
namespace LW
open PySem PySem.Spec PyProof.Rows L2 TL

/-! ### heaps -/
theorem same_new {H : Hp} {p : Addr} {o : HO} (h : H p = none) : Same H (upd H p o) := fun b x e => by
  rw [upd_ne (ne_of_none e h)]
  exact e
theorem hp_new {H : Hp} {a p : Addr} {o x : HO} (h : H a = some o) (n : H p = none) : upd H p x a = some o := (upd_ne (ne_of_none h n)).trans h
theorem same_t {H : Hp} {K : PySem.W.Frag} {H' : Hp} {a : Addr} {xs : List V} (e : Same H H') (h : SqT K H a xs) : SqT K H' a xs := by
  rcases h with (h | ⟨o, h⟩) | h
  · exact .inl (.inl (e _ _ h))
  · exact .inl (.inr ⟨o, e _ _ h⟩)
  · exact .inr h
/-- all but what stands at s is as it was -/
def But (s : Addr) (H H' : Hp) : Prop := ∀ b o, b ≠ s → H b = some o → H' b = some o
theorem But.refl (s : Addr) (H : Hp) : But s H H := fun _ _ _ h => h
theorem But.trans {s : Addr} {H H1 H2 : Hp} (a : But s H H1) (b : But s H1 H2) : But s H H2 := fun c o n h => b c o n (a c o n h)
theorem But.of {s : Addr} {H H' : Hp} (h : Same H H') : But s H H' := fun b o _ e => h b o e
theorem But.upd {s : Addr} {H : Hp} {o : HO} : But s H (upd H s o) := fun b x n e => by
  rw [upd_ne n]
  exact e
theorem But.free {s : Addr} {H H' : Hp} (e : But s H H') {l : Addr} (hs : l ≠ s) (h : H' l = none) : H l = none := by
  cases q : H l with
  | none => rfl
  | some o =>
    rw [e l o hs q] at h
    cases h
/-- a new object changed: all that stood before is as it was -/
theorem same_mut {H H' : Hp} {p : Addr} {o : HO} (e : Same H H') (h : H p = none) : Same H (upd H' p o) := fun a u ha => by
  rw [upd_ne (ne_of_none ha h)]
  exact e a u ha

/-- the heap without what stands at s -/
def wo (s : Addr) (H : Hp) : Hp := fun b => if b = s then none else H b
theorem wo_self {s : Addr} {H : Hp} : wo s H s = none := by
  unfold wo
  rw [if_pos rfl]
theorem wo_ne {s b : Addr} {H : Hp} (h : b ≠ s) : wo s H b = H b := by
  unfold wo
  rw [if_neg h]
theorem wo_same {s : Addr} {H : Hp} : Same (wo s H) H := fun b o e => by
  unfold wo at e
  split at e
  · cases e
  · exact e
theorem But.hid {s : Addr} {H H' : Hp} (h : But s H H') : Same (wo s H) (wo s H') := fun b o e => by
  unfold LW.wo at e ⊢
  split at e
  · cases e
  · rename_i n
    rw [if_neg n]
    exact h b o n e
theorem But.hid1 {s : Addr} {H H' : Hp} (h : But s H H') : Same (wo s H) H' := fun b o e => wo_same b o (h.hid b o e)
theorem But.trans' {s : Addr} {H H1 H2 : Hp} (a : But s H H1) (b : Same H1 H2) : But s H H2 := a.trans (.of b)
theorem Same.but {s : Addr} {H H1 H2 : Hp} (a : Same H H1) (b : But s H1 H2) : But s H H2 := (But.of a).trans b
/-- a new thing of ours is at s: all but s kept is all kept -/
theorem But.same {s : Addr} {H H' : Hp} (h : But s H H') (n : H s = none) : Same H H' := fun b o e => h b o (fun z => by rw [z, n] at e; cases e) e

/-! ### data that stands in tracked lists and tuples -/
mutual
def Dt (H : Hp) : V → PyData → Prop
  | v, .none => v = .non
  | v, .bool b => v = .bl b
  | v, .int i => v = .int i
  | v, .str x => v = .str x
  | v, .list ds => ∃ a xs, v = .ref a ∧ H a = some (.lst xs) ∧ DtAll H xs ds
  | v, .tuple ds => ∃ a xs, v = .ref a ∧ H a = some (.tup xs) ∧ DtAll H xs ds
  | _, .dict _ => False
def DtAll (H : Hp) : List V → List PyData → Prop
  | xs, [] => xs = []
  | xs, d :: ds => ∃ v vs, xs = v :: vs ∧ Dt H v d ∧ DtAll H vs ds
end
mutual
theorem Dt.same {H H' : Hp} (e : Same H H') : ∀ (d : PyData) (v : V), Dt H v d → Dt H' v d
  | .none, _, h => by
    unfold Dt at h ⊢
    exact h
  | .bool _, _, h => by
    unfold Dt at h ⊢
    exact h
  | .int _, _, h => by
    unfold Dt at h ⊢
    exact h
  | .str _, _, h => by
    unfold Dt at h ⊢
    exact h
  | .list ds, _, h => by
    unfold Dt at h ⊢
    obtain ⟨a, xs, e1, e2, e3⟩ := h
    exact ⟨a, xs, e1, e _ _ e2, DtAll.same e ds xs e3⟩
  | .tuple ds, _, h => by
    unfold Dt at h ⊢
    obtain ⟨a, xs, e1, e2, e3⟩ := h
    exact ⟨a, xs, e1, e _ _ e2, DtAll.same e ds xs e3⟩
  | .dict _, _, h => by
    unfold Dt at h
    exact h.elim
theorem DtAll.same {H H' : Hp} (e : Same H H') : ∀ (ds : List PyData) (xs : List V), DtAll H xs ds → DtAll H' xs ds
  | [], _, h => by
    unfold DtAll at h ⊢
    exact h
  | d :: ds, _, h => by
    unfold DtAll at h ⊢
    obtain ⟨v, vs, e1, e2, e3⟩ := h
    exact ⟨v, vs, e1, Dt.same e d v e2, DtAll.same e ds vs e3⟩
end
/-! ### data of tuples alone: nothing changes it -/
/-- all tuples stand as they stood -/
def Ts (H H' : Hp) : Prop := ∀ a xs, H a = some (.tup xs) → H' a = some (.tup xs)
theorem Ts.refl (H : Hp) : Ts H H := fun _ _ h => h
theorem Ts.trans {H H1 H2 : Hp} (a : Ts H H1) (b : Ts H1 H2) : Ts H H2 := fun c o h => b c o (a c o h)
theorem Ts.of {H H' : Hp} (h : Same H H') : Ts H H' := fun a _ e => h a _ e
theorem Ts.but {s : Addr} {H H' : Hp} {xs : List V} (h : But s H H') (hs : H s = some (.lst xs)) : Ts H H' := fun a ys e => h a _ (fun z => by rw [z, hs] at e; cases e) e
theorem Ts.upd {s : Addr} {H : Hp} {xs : List V} {o : HO} (hs : H s = some (.lst xs)) : Ts H (upd H s o) := Ts.but But.upd hs
theorem Ts.hid {s : Addr} {H H' : Hp} {xs : List V} (h : Ts H H') (hs : H s = some (.lst xs)) : Ts H (wo s H') := fun a ys e => by
  rw [wo_ne (fun z => by rw [z, hs] at e; cases e)]
  exact h a ys e
mutual
def fz : PyData → Bool
  | .list _ => false
  | .dict _ => false
  | .tuple ds => fzAll ds
  | _ => true
def fzAll : List PyData → Bool
  | [] => true
  | d :: ds => fz d && fzAll ds
end
mutual
theorem Dt.ts {H H' : Hp} (e : Ts H H') : ∀ (d : PyData) (v : V), fz d = true → Dt H v d → Dt H' v d
  | .none, _, _, h => by
    unfold Dt at h ⊢
    exact h
  | .bool _, _, _, h => by
    unfold Dt at h ⊢
    exact h
  | .int _, _, _, h => by
    unfold Dt at h ⊢
    exact h
  | .str _, _, _, h => by
    unfold Dt at h ⊢
    exact h
  | .list ds, _, f, _ => by
    unfold fz at f
    cases f
  | .tuple ds, _, f, h => by
    unfold fz at f
    unfold Dt at h ⊢
    obtain ⟨a, xs, e1, e2, e3⟩ := h
    exact ⟨a, xs, e1, e _ _ e2, DtAll.ts e ds xs f e3⟩
  | .dict _, _, f, h => by
    unfold fz at f
    cases f
theorem DtAll.ts {H H' : Hp} (e : Ts H H') : ∀ (ds : List PyData) (xs : List V), fzAll ds = true → DtAll H xs ds → DtAll H' xs ds
  | [], _, _, h => by
    unfold DtAll at h ⊢
    exact h
  | d :: ds, _, f, h => by
    unfold fzAll at f
    rw [Bool.and_eq_true] at f
    unfold DtAll at h ⊢
    obtain ⟨v, vs, e1, e2, e3⟩ := h
    exact ⟨v, vs, e1, Dt.ts e d v f.1 e2, DtAll.ts e ds vs f.2 e3⟩
end
theorem fzAll_iff : ∀ {ds : List PyData}, fzAll ds = true ↔ ∀ d ∈ ds, fz d = true
  | [] => by simp [fzAll]
  | d :: ds => by simp [fzAll, fzAll_iff (ds := ds)]
theorem fzAll_map {α : Type} {f : α → PyData} (h : ∀ a, fz (f a) = true) (l : List α) : fzAll (l.map f) = true := fzAll_iff.mpr fun d hd => by
  obtain ⟨a, _, rfl⟩ := List.mem_map.mp hd
  exact h a
theorem dt_int {H : Hp} (i : Int) : Dt H (.int i) (.int i) := by unfold Dt; rfl
theorem dt_str {H : Hp} (x : Str) : Dt H (.str x) (.str x) := by unfold Dt; rfl
theorem dt_bool {H : Hp} (b : Bool) : Dt H (.bl b) (.bool b) := by unfold Dt; rfl
theorem dt_none {H : Hp} : Dt H .non .none := by unfold Dt; rfl
theorem dt_list {H : Hp} {a : Addr} {xs : List V} {ds : List PyData} (h : H a = some (.lst xs)) (k : DtAll H xs ds) : Dt H (.ref a) (.list ds) := by
  unfold Dt
  exact ⟨a, xs, rfl, h, k⟩
theorem dt_tup {H : Hp} {a : Addr} {xs : List V} {ds : List PyData} (h : H a = some (.tup xs)) (k : DtAll H xs ds) : Dt H (.ref a) (.tuple ds) := by
  unfold Dt
  exact ⟨a, xs, rfl, h, k⟩
theorem da_nil {H : Hp} : DtAll H [] [] := by unfold DtAll; rfl
theorem da_cons {H : Hp} {v : V} {vs : List V} {d : PyData} {ds : List PyData} (h : Dt H v d) (k : DtAll H vs ds) : DtAll H (v :: vs) (d :: ds) := by
  unfold DtAll
  exact ⟨v, vs, rfl, h, k⟩
theorem da_app {H : Hp} : ∀ {ds es : List PyData} {xs ys : List V}, DtAll H xs ds → DtAll H ys es → DtAll H (xs ++ ys) (ds ++ es)
  | [], es, xs, ys, h, k => by
    unfold DtAll at h
    subst h
    exact k
  | d :: ds, es, xs, ys, h, k => by
    unfold DtAll at h
    obtain ⟨v, vs, rfl, h1, h2⟩ := h
    exact da_cons h1 (da_app h2 k)
theorem da_len {H : Hp} : ∀ {ds : List PyData} {xs : List V}, DtAll H xs ds → xs.length = ds.length
  | [], xs, h => by
    unfold DtAll at h
    subst h
    rfl
  | d :: ds, xs, h => by
    unfold DtAll at h
    obtain ⟨v, vs, rfl, h1, h2⟩ := h
    rw [List.length_cons, List.length_cons, da_len h2]
theorem da_get {H : Hp} : ∀ {ds : List PyData} {xs : List V} {i : Nat} {d : PyData}, DtAll H xs ds → ds[i]? = some d → ∃ v, xs[i]? = some v ∧ Dt H v d
  | [], _, _, _, _, e => by simp at e
  | d :: ds, xs, 0, d', h, e => by
    unfold DtAll at h
    obtain ⟨v, vs, rfl, h1, h2⟩ := h
    simp at e
    subst e
    exact ⟨v, rfl, h1⟩
  | d :: ds, xs, i + 1, d', h, e => by
    unfold DtAll at h
    obtain ⟨v, vs, rfl, h1, h2⟩ := h
    obtain ⟨u, e1, e2⟩ := da_get (i := i) h2 (by simpa using e)
    exact ⟨u, by simpa using e1, e2⟩
theorem da_dropLast {H : Hp} : ∀ {ds : List PyData} {xs : List V}, DtAll H xs ds → DtAll H xs.dropLast ds.dropLast
  | [], xs, h => by
    unfold DtAll at h
    subst h
    exact da_nil
  | [d], xs, h => by
    unfold DtAll at h
    obtain ⟨v, vs, rfl, h1, h2⟩ := h
    unfold DtAll at h2
    subst h2
    exact da_nil
  | d :: d' :: ds, xs, h => by
    unfold DtAll at h
    obtain ⟨v, vs, rfl, h1, h2⟩ := h
    have h3 := da_dropLast h2
    have l := da_len h2
    cases vs with
    | nil => simp at l
    | cons u us => exact da_cons h1 h3
theorem da_snoc {H : Hp} : ∀ {ds : List PyData} {d : PyData} {xs : List V}, DtAll H xs (ds ++ [d]) → ∃ ys v, xs = ys ++ [v] ∧ DtAll H ys ds ∧ Dt H v d
  | [], d, xs, h => by
    rw [List.nil_append] at h
    unfold DtAll at h
    obtain ⟨v, vs, rfl, h1, h2⟩ := h
    unfold DtAll at h2
    subst h2
    exact ⟨[], v, rfl, da_nil, h1⟩
  | e :: ds, d, xs, h => by
    rw [List.cons_append] at h
    unfold DtAll at h
    obtain ⟨v, vs, rfl, h1, h2⟩ := h
    obtain ⟨ys, u, rfl, h3, h4⟩ := da_snoc h2
    exact ⟨v :: ys, u, rfl, da_cons h1 h3, h4⟩
theorem da_ints {H : Hp} : ∀ (ns : List Int), DtAll H (ns.map V.int) (ns.map PyData.int)
  | [] => da_nil
  | n :: ns => da_cons (dt_int n) (da_ints ns)

mutual
/-- how deep data go -/
def dep : PyData → Nat
  | .list ds => depAll ds + 1
  | .tuple ds => depAll ds + 1
  | _ => 0
def depAll : List PyData → Nat
  | [] => 0
  | d :: ds => max (dep d) (depAll ds)
end
theorem dep_get : ∀ {ds : List PyData} {i : Nat} {d : PyData}, ds[i]? = some d → dep d ≤ depAll ds
  | [], _, _, e => by simp at e
  | d :: ds, 0, d', e => by
    simp at e
    subst e
    unfold depAll
    exact Nat.le_max_left _ _
  | d :: ds, i + 1, d', e => by
    have h := dep_get (ds := ds) (i := i) (d := d') (by simpa using e)
    unfold depAll
    exact Nat.le_trans h (Nat.le_max_right _ _)

theorem sz_small {n : Nat} (h : n ≤ 16000000) : n ≤ sizeLine := Nat.le_trans h (by decide)
theorem sz_less {n : Nat} (h : n ≤ 16000000) : n < sizeLine := Nat.lt_of_le_of_lt h (by decide)

/-! ### tests -/
theorem iteD {p A B : Prop} [Decidable p] (h1 : p → A) (h2 : ¬ p → B) : if decide p = true then A else B := by
  by_cases h : p
  · rw [decide_eq_true h]
    exact iteT (h1 h)
  · rw [decide_eq_false h]
    exact iteF (h2 h)
theorem iteDn {p A B : Prop} [Decidable p] (h1 : ¬ p → A) (h2 : p → B) : if (!decide p) = true then A else B := by
  by_cases h : p
  · rw [decide_eq_true h]
    exact iteF (h2 h)
  · rw [decide_eq_false h]
    exact iteT (h1 h)
theorem iteI {i j : Int} {A B : Prop} (h1 : i = j → A) (h2 : i ≠ j → B) : if decide (V.int i = V.int j) = true then A else B :=
  iteD (fun e => h1 (V.int.inj e)) fun e => h2 fun z => e (congrArg V.int z)
theorem iteIn {i j : Int} {A B : Prop} (h1 : i ≠ j → A) (h2 : i = j → B) : if (!decide (V.int i = V.int j)) = true then A else B :=
  iteDn (fun e => h1 fun z => e (congrArg V.int z)) fun e => h2 (V.int.inj e)
theorem iteS {i j : Str} {A B : Prop} (h1 : i = j → A) (h2 : i ≠ j → B) : if decide (V.str i = V.str j) = true then A else B :=
  iteD (fun e => h1 (V.str.inj e)) fun e => h2 fun z => e (congrArg V.str z)
theorem iteSn {i j : Str} {A B : Prop} (h1 : i ≠ j → A) (h2 : i = j → B) : if (!decide (V.str i = V.str j)) = true then A else B :=
  iteDn (fun e => h1 fun z => e (congrArg V.str z)) fun e => h2 (V.str.inj e)
theorem dec_eqS {i j : Str} : decide (V.str i = V.str j) = decide (i = j) := by
  by_cases e : i = j
  · subst e; simp
  · rw [decide_eq_false e]; exact decide_eq_false fun z => e (V.str.inj z)
theorem dec_eqI {i j : Int} : decide (V.int i = V.int j) = decide (i = j) := by
  by_cases e : i = j
  · subst e; simp
  · rw [decide_eq_false e]; exact decide_eq_false fun z => e (V.int.inj z)
/-- a sign -/
abbrev sg (c : Nat) : Str := ⟨#[c]⟩
theorem sg_inj {c d : Nat} (h : sg c = sg d) : c = d := by
  have h2 : tl (sg c) = tl (sg d) := congrArg tl h
  have h3 : [c] = [d] := h2
  simpa using h3
theorem sg_eq {c d : Nat} {s : Str} (hs : s = sg d) : sg c = s ↔ c = d := by
  subst hs
  exact ⟨sg_inj, fun e => by rw [e]⟩
abbrev str (l : List Nat) : Str := ⟨l.toArray⟩
theorem str_tl (x : Str) : str (tl x) = x := mk_tl x
theorem tl_str (l : List Nat) : tl (str l) = l := rfl
theorem str_len (l : List Nat) : (str l).length = l.length := by rw [len_tl, tl_str]
theorem str_app (l m : List Nat) : str l ++ str m = str (l ++ m) := ext_tl (by rw [tl_append])
theorem str_inj {l m : List Nat} (h : str l = str m) : l = m := by
  have h2 : tl (str l) = tl (str m) := congrArg tl h
  exact h2
theorem map_get {α : Type} {f : α → V} {ms : List α} {i : Nat} {x : V} (h : (ms.map f)[i]? = some x) : ∃ v, x = f v ∧ ms[i]? = some v := by
  rw [List.getElem?_map] at h
  cases e : ms[i]? with
  | none => rw [e] at h; cases h
  | some v =>
    rw [e] at h
    exact ⟨v, (Option.some.inj h).symm, rfl⟩
theorem atI_map {α : Type} {f : α → V} {ms : List α} {i : Int} (h0 : 0 ≤ i) (h : i < ms.length) : ∃ v, ms[i.toNat]? = some v ∧ atI (ms.map f) i = some (f v) := by
  obtain ⟨n, rfl⟩ : ∃ n : Nat, i = (n : Int) := ⟨i.toNat, by omega⟩
  have hn : n < ms.length := by omega
  refine ⟨ms[n], by simp [hn], atI_nat ?_⟩
  rw [List.getElem?_map, List.getElem?_eq_getElem hn]
  rfl
theorem cut_take {xs : List V} (k : Nat) : cutV xs none (some (k : Int)) = xs.take k := by
  unfold cutV
  rw [HT.sIx_none, HT.sIx_nat, List.drop_zero, Nat.sub_zero]
  by_cases h : k ≤ xs.length
  · rw [Nat.min_eq_left h]
  · rw [Nat.min_eq_right (by omega), List.take_of_length_le (Nat.le_refl _), List.take_of_length_le (by omega)]
theorem cut_drop {xs : List V} (k : Nat) : cutV xs (some (k : Int)) none = xs.drop k := by
  unfold cutV
  rw [HT.sIx_none, HT.sIx_nat]
  by_cases h : k ≤ xs.length
  · rw [Nat.min_eq_left h, List.take_of_length_le (by simp)]
  · rw [Nat.min_eq_right (by omega), Nat.sub_self, List.drop_of_length_le (by omega), List.drop_of_length_le (by omega)]
    rfl
theorem cutS_nat {z : Str} {a b : Nat} : cutS z (some (a : Int)) (some (b : Int)) = str (((tl z).drop a).take (b - a)) := by
  show str (((tl z).drop (HT.sIx z.length 0 (some (a : Int)))).take (HT.sIx z.length z.length (some (b : Int)) - HT.sIx z.length 0 (some (a : Int)))) = _
  rw [HT.sIx_nat, HT.sIx_nat, len_tl]
  by_cases ha : a ≤ (tl z).length
  · rw [show min a (tl z).length = a by omega]
    by_cases h : b ≤ (tl z).length
    · rw [show min b (tl z).length = b by omega]
    · rw [show min b (tl z).length = (tl z).length by omega, List.take_of_length_le (by rw [List.length_drop]; omega), List.take_of_length_le (by rw [List.length_drop]; omega)]
  · rw [show min a (tl z).length = (tl z).length by omega]
    conv => rhs; rw [List.drop_of_length_le (by omega), List.take_nil]
    rw [List.drop_of_length_le (Nat.le_refl _), List.take_nil]
theorem atI_tl {x : Str} {i : Nat} {c : Nat} (h : (tl x)[i]? = some c) : atI x.cps.toList ((i : Nat) : Int) = some c := atI_nat h
theorem atI_lt {α : Type} {xs : List α} {i : Int} (h0 : 0 ≤ i) (h : i < xs.length) : atI xs i = some (xs[i.toNat]'(by omega)) := by
  obtain ⟨n, rfl⟩ : ∃ n : Nat, i = (n : Int) := ⟨i.toNat, by omega⟩
  have hn : n < xs.length := by omega
  have e := atI_nat (j := n) (List.getElem?_eq_getElem hn)
  simpa using e
theorem ixN_0 {n : Nat} (h : 0 < n) : ixN n 0 = some 0 := Evl.ixN_nat (j := 0) h
theorem ixN_1 {n : Nat} (h : 1 < n) : ixN n 1 = some 1 := Evl.ixN_nat (j := 1) h
theorem ixN_2 {n : Nat} (h : 2 < n) : ixN n 2 = some 2 := Evl.ixN_nat (j := 2) h
/-! ### steps by the head of a reading -/
section
variable {σ : L2.St} {H : Hp} {Q : VK} {D : Ends} {v : V} {te ta tb : TE} {t u c : TT} {t1 t2 t3 : TS} {g : TG} {i : Nat} {a b : Bool} {x y : Str} {k l : Int}
theorem go_c (q : Q v H) : tC v σ H Q := q
theorem go_nil {Q : List V → Hp → Prop} (q : Q [] H) : tNil σ H Q := q
theorem go_cons {tr : TA} {Q : List V → Hp → Prop} (q : te σ H fun x H1 => tr σ H1 fun xs H2 => Q (x :: xs) H2) : tCons te tr σ H Q := q
theorem go_call {sp : Sp} {dvs : List V} {E : XK} {tr : TA} (q : tr σ H fun vs H1 => sp (vs ++ dvs) H1 Q E) : tCall sp dvs E tr σ H Q := q
theorem go_cb {r : List V → Hp → VK → Prop} {tr : TA} (q : tr σ H fun vs H1 => r vs H1 Q) : tCB r tr σ H Q := q
theorem go_next (q : D.nx σ H) : tNext D σ H := q
theorem go_cont (q : D.ct σ H) : tCont D σ H := q
theorem go_brk (q : D.bk σ H) : tBreak D σ H := q
theorem go_name {Q : L2.St → Hp → Prop} (q : Q (σ.set i (some v)) H) : gName i v σ H Q := q
theorem go_seq (q : t1 { D with nx := t2 D } σ H) : tSeq t1 t2 D σ H := q
theorem go_asg (q : te σ H fun x H1 => g x σ H1 D.nx) : tAsg te g D σ H := q
theorem go_if (h : Ans c σ H a) (h1 : a = true → t1 D σ H) (h2 : a = false → t2 D σ H) : tIfS c t1 t2 D σ H := by
  cases a with
  | true => exact st_yes h (h1 rfl)
  | false => exact st_no h (h2 rfl)
theorem go_ifOr (h : Ans (tOr t u) σ H a) (h1 : a = true → t1 D σ H) (h2 : a = false → t2 D σ H) : tIfS (tOr t u) t1 t2 D σ H := go_if h h1 h2
theorem go_ifAnd (h : Ans (tAnd t u) σ H a) (h1 : a = true → t1 D σ H) (h2 : a = false → t2 D σ H) : tIfS (tAnd t u) t1 t2 D σ H := go_if h h1 h2
theorem go_or (h : Val (tOrV ta tb) σ H v) (q : Q v H) : tOrV ta tb σ H Q := h Q q
theorem go_and (h : Val (tAndV ta tb) σ H v) (q : Q v H) : tAndV ta tb σ H Q := h Q q
theorem go_not (h : Val (tNotV ta) σ H v) (q : Q v H) : tNotV ta σ H Q := h Q q
theorem go_ifE (h : Val (tIf t ta tb) σ H v) (q : Q v H) : tIf t ta tb σ H Q := h Q q
theorem val_orV (ha : Val ta σ H (.bl a)) (hb : Val tb σ H (.bl b)) : Val (tOrV ta tb) σ H (.bl (a || b)) := fun Q q => ha _ ⟨a, rfl, by
  cases a with
  | true => exact q
  | false => exact hb Q q⟩
theorem val_andV (ha : Val ta σ H (.bl a)) (hb : Val tb σ H (.bl b)) : Val (tAndV ta tb) σ H (.bl (a && b)) := fun Q q => ha _ ⟨a, rfl, by
  cases a with
  | true => exact hb Q q
  | false => exact q⟩
theorem val_notV (ha : Val ta σ H (.bl a)) : Val (tNotV ta) σ H (.bl (!a)) := fun Q q => ha _ ⟨a, rfl, q⟩
theorem val_ifS (h : Ans t σ H a) (ha : Val ta σ H (.str x)) (hb : Val tb σ H (.str y)) : Val (tIf t ta tb) σ H (.str (if a = true then x else y)) := fun Q q => h _ (by
  cases a with
  | true => exact ha Q q
  | false => exact hb Q q)
theorem val_ifI (h : Ans t σ H a) (ha : Val ta σ H (.int k)) (hb : Val tb σ H (.int l)) : Val (tIf t ta tb) σ H (.int (if a = true then k else l)) := fun Q q => h _ (by
  cases a with
  | true => exact ha Q q
  | false => exact hb Q q)
theorem val_ifB {p q : Bool} (h : Ans t σ H a) (ha : Val ta σ H (.bl p)) (hb : Val tb σ H (.bl q)) : Val (tIf t ta tb) σ H (.bl (if a = true then p else q)) := fun Q q => h _ (by
  cases a with
  | true => exact ha Q q
  | false => exact hb Q q)
theorem val_eqS (ha : Val ta σ H (.str x)) (hb : Val tb σ H (.str y)) : Val (tOp rEq ta tb) σ H (.bl (decide (x = y))) := fun Q q => ha _ (hb _ ⟨rfl, by rw [dec_eqS]; exact q⟩)
theorem val_eqI (ha : Val ta σ H (.int k)) (hb : Val tb σ H (.int l)) : Val (tOp rEq ta tb) σ H (.bl (decide (k = l))) := fun Q q => ha _ (hb _ ⟨rfl, by rw [dec_eqI]; exact q⟩)
theorem val_neS (ha : Val ta σ H (.str x)) (hb : Val tb σ H (.str y)) : Val (tOp rNe ta tb) σ H (.bl (!decide (x = y))) := fun Q q => ha _ (hb _ ⟨rfl, by rw [dec_eqS]; exact q⟩)
theorem val_neI (ha : Val ta σ H (.int k)) (hb : Val tb σ H (.int l)) : Val (tOp rNe ta tb) σ H (.bl (!decide (k = l))) := fun Q q => ha _ (hb _ ⟨rfl, by rw [dec_eqI]; exact q⟩)
theorem ans_test (h : Val te σ H (.bl a)) : Ans (tTest te) σ H a := fun Q q => h _ ⟨a, rfl, q⟩
theorem ans_or2 (h1 : Ans t σ H a) (h2 : Ans u σ H b) : Ans (tOr t u) σ H (a || b) := fun Q q => h1 _ (by
  cases a with
  | true => exact q
  | false => exact h2 Q q)
end
/-- a loop over the signs of a text -/
theorem for_str {z : Str} {g : TG} {tb : TS} {D : Ends} {σ : L2.St} {H : Hp} (Pv : Nat → L2.St → Hp → Prop) (h0 : Pv 0 σ H)
    (hs : ∀ (i c : Nat) σ H, (tl z)[i]? = some c → Pv i σ H → g (.str (sg c)) σ H fun σ2 H2 => tb { D with nx := Pv (i + 1), ct := Pv (i + 1), bk := D.nx } σ2 H2) (hd : ∀ σ H, Pv (tl z).length σ H → D.nx σ H) :
    ∃ W : Nat → Nat → L2.St → Hp → Prop, (∃ m, W 0 m σ H) ∧ ∀ i m σ H, W i m σ H →
      ((Its z).stop i H ∧ D.nx σ H) ∨ ((Its z).go i H ∧ ∃ N : L2.St → Hp → Prop, (∀ σ' H', N σ' H' → ∃ m', m' < m ∧ W (i + 1) m' σ' H') ∧ ∀ x H', (Its z).yld i H x H' → g x σ H' fun σ2 H2 => tb { D with nx := N, ct := N, bk := D.nx } σ2 H2) := by
  have el : (tl z).length = z.cps.size := by simp
  refine ⟨fun i m σ H => m = (tl z).length - i ∧ i ≤ (tl z).length ∧ Pv i σ H, ⟨(tl z).length, rfl, Nat.zero_le _, h0⟩, ?_⟩
  rintro i m σ H ⟨rfl, hi, p⟩
  by_cases hlt : i < (tl z).length
  · refine .inr ⟨(show i < z.cps.size by omega), Pv (i + 1), fun σ' H' p' => ⟨(tl z).length - (i + 1), by omega, rfl, hlt, p'⟩, fun x H' y => ?_⟩
    obtain ⟨rfl, c, hc, rfl⟩ := y
    exact hs i c σ _ (by rw [← hc]; simp) p
  · have e : i = (tl z).length := by omega
    subst e
    exact .inl ⟨Nat.le_of_eq el.symm, hd σ H p⟩
end LW
set_option Elab.async false
set_option linter.all false
set_option maxRecDepth 100000
set_option maxHeartbeats 1000000
/-! ListRev: list(reversed(x)), x a list: a new list. -/
namespace LW
open PySem PySem.Spec PyProof.Rows L2
section
variable {prog : Program} {w : World} {A : Around} {E : Value → Shared → Prop} {s : Shared}
theorem hint_rev {it l : Addr} {i : Int} {Q : Bool → Shared → Prop} (hit : s.heap.IsRevIter it l i) (h : Q false s) : wpAny (model prog w) A (Builtin.List.listLengthHint (.ref it)) Q E s := by
  have hT : s.TypeIs (.ref it) "list_reverseiterator" := hit.typeIs
  unfold Builtin.List.listLengthHint
  refine wpAny_bind (wpAny_specialOf hT RT.nolen_lri ?_)
  show wpAny _ A (specialOf (Value.ref it) (Str.ofString "__length_hint__") >>= _) _ _ _
  refine wpAny_bind (wpAny_specialOf hT RT.hint_lri ?_)
  generalize hid : ("list_reverseiterator.__length_hint__" : String) = id0
  wp_delta
  rw [show splitId id0 = some ("list_reverseiterator", "__length_hint__") from by subst hid; decide +kernel]
  subst hid
  refine wpAny_bind (wpAny_isInstance (b := true) hT (by rw [isSubtype_type]; kernel_rfl) ?_)
  exact wpAny_pure h
theorem extend_rev {R : Result → Shared → Prop} {it l : Addr} {items : Array Value} (hh : A.handled = none) (hit : s.heap.IsRevIter it l ((items.size : Int) - 1)) (hl : s.heap.IsList l items) (hne : l ≠ it) (hn : items.size ≤ sizeLine)
    (S : Addr) (hSi : S ≠ it) (hSl : S ≠ l) (res : Value) (c₀ : Nat) (hS : s.heap.get? S = some { cls := .type "list", data := .seq #[] c₀ })
    (hR : ∀ h' tk acc' c', (∀ b o, b ≠ S → b ≠ it → s.heap.get? b = some o → h'.get? b = some o) → h'.get? S = some { cls := .type "list", dict := none, data := .seq acc' c', slots := #[] } → ItemsOf (fun i v => items[items.size - 1 - i]? = some v) acc' items.size → R (.ok (.ret res)) { s with heap := h', toks := tk }) :
    wpAny (model prog w) A.in1 (Builtin.List.listExtendWith (.ref S) (.ref it) res)
      (fun fin s' => match fin with | .done f => R (.ok f) s' | .again c' => c'.quiet = true ∧ codeAny (model prog w) A c' R s') (fun e s' => R (.error e) s') s := by
  have W := (Walks.listRev (prog := prog) (w := w) (A := A.in1) hh it l hne items).toS
  have hSf : S ∉ [it, l] := by simp only [List.mem_cons, List.not_mem_nil, or_false, not_or]; exact ⟨hSi, hSl⟩
  have hT : s.TypeIs (.ref it) "list_reverseiterator" := hit.typeIs
  have e0 : ((items.size : Nat) : Int) - 1 - ((0 : Nat) : Int) = (items.size : Int) - 1 := by omega
  have h1 : Builtin.List.listSameRef (.ref S) (.ref it) = false := by simp [Builtin.List.listSameRef, hSi]
  unfold Builtin.List.listExtendWith
  refine wpAny_bind (wpAny_typeOf hT ?_)
  rw [if_neg (by rw [h1]; decide)]
  refine wpAny_bind (wpAny_pyIter_revIter hit ?_)
  refine wpAny_bind (wpAny_holding (hint_rev hit ?_))
  refine wpAny_pure ⟨plainId_quiet F.plain_extend_loop _, codeAny_extend_loopS W hn S hSf res items.size 0 _ #[] c₀ rfl (Nat.zero_le _) ⟨Nat.zero_le _, by rw [e0]; exact hit, hl⟩ hS (ItemsOf.nil _) fun s' acc' c' hm hS' hacc => ?_⟩
  rw [Moved.eq_with hm]
  refine hR s'.heap s'.toks acc' c' (fun b o hb hb2 e => hm.heap b o (fun hmem => ?_) e) hS' hacc
  rcases List.mem_cons.mp hmem with e' | hmem
  · exact hb e'
  · exact hb2 (List.mem_singleton.mp hmem)
theorem init_rev {R : Result → Shared → Prop} {it l : Addr} {items : Array Value} (hh : A.handled = none) (hit : s.heap.IsRevIter it l ((items.size : Int) - 1)) (hl : s.heap.IsList l items) (hne : l ≠ it) (hn : items.size ≤ sizeLine)
    (S : Addr) (hSi : S ≠ it) (hSl : S ≠ l) (hS : s.heap.get? S = some { cls := .type "list", data := .seq #[] })
    (hR : ∀ h' tk acc' c', (∀ b o, b ≠ S → b ≠ it → s.heap.get? b = some o → h'.get? b = some o) → h'.get? S = some { cls := .type "list", dict := none, data := .seq acc' c', slots := #[] } → ItemsOf (fun i v => items[items.size - 1 - i]? = some v) acc' items.size → R (.ok (.ret .none)) { s with heap := h', toks := tk }) :
    wpAny (model prog w) A.in1 (Builtin.«list.__init__» ⟨[.ref S, .ref it], []⟩)
      (fun fin s' => match fin with | .done f => R (.ok f) s' | .again c' => c'.quiet = true ∧ codeAny (model prog w) A c' R s') (fun e s' => R (.error e) s') s := by
  show wpAny _ _ (do let old ← Builtin.List.listItems (.ref S); Builtin.List.listUpdate (.ref S) (fun _ => #[]); letGo old.toList.reverse; Builtin.List.listExtendWith (.ref S) (.ref it) .none) _ _ s
  refine wpAny_bind ?_
  unfold Builtin.List.listItems
  refine wpAny_bind (wpAny_seqItems hS rfl (wpAny_pure ?_))
  show wpAny _ _ (updateSeq S (fun _ => #[]) >>= fun _ => letGo (#[] : Array Value).toList.reverse >>= fun _ => Builtin.List.listExtendWith (.ref S) (.ref it) .none) _ _ s
  refine wpAny_bind (wpAny_updateSeq hS rfl ?_)
  have hS₂ := Heap.get?_update_self (Obj.mapSeq (fun _ => (#[] : Array Value))) hS rfl
  have oth : ∀ b o, b ≠ S → s.heap.get? b = some o → (s.heap.update S (Obj.mapSeq (fun _ => (#[] : Array Value)))).get? b = some o :=
    fun b o hb e => (Heap.get?_update_other _ _ (Ne.symm hb)).trans e
  refine wpAny_bind (wpAny_letGo ?_)
  refine extend_rev hh (hit.at fun o e => oth it o (Ne.symm hSi) e) (let ⟨o, ho, x⟩ := hl; ⟨o, oth l o (Ne.symm hSl) ho, x⟩) hne hn S hSi hSl .none _ hS₂ fun h' tk acc' c' hk hS' hacc => ?_
  exact hR h' tk acc' c' (fun b o hb hb2 e => hk b o hb hb2 (oth b o hb e)) hS' hacc
theorem call_list_rev {it l : Addr} {items : Array Value} {Q : Value → Shared → Prop} (hh : A.handled = none) (hit : s.heap.IsRevIter it l ((items.size : Int) - 1)) (hl : s.heap.IsList l items) (hne : l ≠ it) (hn : items.size ≤ sizeLine)
    (hQ : ∀ h' tk acc' c', (∀ b o, b ≠ it → s.heap.get? b = some o → h'.get? b = some o) → h'.get? s.heap.objs.size = some { cls := .type "list", dict := none, data := .seq acc' c', slots := #[] } →
      ItemsOf (fun i v => items[items.size - 1 - i]? = some v) acc' items.size → Q (.ref s.heap.objs.size) { s with heap := h', toks := tk }) :
    wpAny (model prog w) A (call (.type "list") [.ref it]) Q E s := by
  refine callType_codes (Q₁ := fun obj s₁ => obj = .ref s.heap.objs.size ∧ s₁ = { s with heap := s.heap.push { cls := .type "list", data := .seq #[] } }) F.called_list (F.typeCall_list_1 _) F.entry_list_init
    (code_list_new _ ⟨rfl, rfl⟩) fun obj s₁ h₁ => ?_
  obtain ⟨rfl, rfl⟩ := h₁
  have hS : (s.heap.push { cls := .type "list", data := .seq #[] }).get? s.heap.objs.size = some { cls := .type "list", data := .seq #[] } := Heap.get?_push_size _ rfl
  obtain ⟨oi, hoi, _⟩ := id hit
  obtain ⟨ol, hol, _⟩ := id hl
  refine ⟨⟨_, hS, rfl⟩, F.args_list_init_2 _ _, init_rev (A := A.in1) hh (hit.at fun o e => Heap.get?_push_of_some _ e) (hl.push _) hne hn _ (Nat.ne_of_gt (Heap.lt_size hoi)) (Nat.ne_of_gt (Heap.lt_size hol)) hS fun h' tk acc' c' hk hS' hacc => ?_⟩
  exact ⟨rfl, hQ h' tk acc' c' (fun b o hb e => hk b o (Nat.ne_of_lt (Heap.lt_size e)) hb (Heap.get?_push_of_some _ e)) hS' hacc⟩
end
/-- list(reversed(x)), x a list: a new list -/
def tLstRev (K : PySem.W.Frag) (te : TE) : TE := fun σ H Q => te σ H fun v H1 => ∃ (a : Addr) (xs : List V), v = .ref a ∧ SqL K H1 a xs ∧ ∀ q, H1 q = none → Q (.ref q) (upd H1 q (.lst xs.reverse))
section
variable {X : Cx}
theorem pe_listRev {e : Expr} {te : TE} {p p2 pos pos2 : Pos} (hc : X.calm = true) (hg : Gl X "list") (hm : X.mg "list" = none) (hg2 : Gl X "reversed") (hm2 : X.mg "reversed" = none) (he : PE X e te)
    (hs : starEach [e] X.env = (false, eval e X.env) :: starEach [] X.env := by rfl)
    (hs2 : starEach [.Call (.Name "reversed" p2) [e] [] pos2] X.env = (false, eval (.Call (.Name "reversed" p2) [e] [] pos2) X.env) :: starEach [] X.env := by rfl) :
    PE X (.Call (.Name "list" p) [.Call (.Name "reversed" p2) [e] [] pos2] [] pos) (tLstRev X.K te) := by
  refine ⟨fun pins s σ H Q I h => ?_⟩
  refine Call_ (ld_blt I hg hm boot_list (PyProof.Rows.callWith_type1 (args_cons (Call_ (ld_blt I hg2 hm2 PyProof.Rows.boot_reversed (PyProof.Rows.callWith_type1 (args_cons (thn (he.run pins s σ H _ I h) fun u s1 ⟨v, H1, I1, r1, q1⟩ => args_nil ?_) hs) hs rfl))) hs2) hs2))
  obtain ⟨a, xs, ev, hq, q⟩ := q1
  subst ev
  obtain rfl : u = Value.ref a := r1
  obtain ⟨its, rv, p', hz⟩ := I1.list hq
  refine call_reversed_list p'.isList (args_nil ?_)
  have hl := p'.isList
  obtain ⟨ol, hol, _⟩ := id hl
  have hne : a ≠ s1.heap.objs.size := Nat.ne_of_lt (Heap.lt_size hol)
  have hn : its.toArray.size ≤ sizeLine := by rw [List.size_toArray, ← rv.length]; exact hz
  refine call_list_rev (s := { s1 with heap := s1.heap.push (revObj a ((its.toArray.size : Int) - 1)) }) (I1.ok.hd hc) ⟨_, Heap.get?_push_size _ rfl, rfl, rfl⟩ (hl.push _) hne hn fun h' tk acc c' hk hS hi => ?_
  have hk1 : ∀ b o, s1.heap.get? b = some o → h'.get? b = some o := fun b o e => hk b o (Nat.ne_of_lt (Heap.lt_size e)) (Heap.get?_push_of_some _ e)
  have hle : s1.heap.objs.size ≤ (s1.heap.push (revObj a ((its.toArray.size : Int) - 1))).objs.size := by simp [Heap.push]
  refine ⟨.ref (s1.heap.push (revObj a ((its.toArray.size : Int) - 1))).objs.size, upd H1 (s1.heap.push (revObj a ((its.toArray.size : Int) - 1))).objs.size (.lst xs.reverse), I1.laid hk1 hle (show ObjOk X.prog X.w _ _ _ (.lst xs.reverse) from ⟨by rw [List.length_reverse]; exact hz, acc.toList, c', RT.vals_rev rv hi, ?_⟩), rfl, q _ (I1.hok.fresh hle)⟩
  rw [Array.toArray_toList]
  exact hS
end
/-! ### x = {k: v for ..} -/
theorem sw_trueD {kx vx : Expr} {gs : List Comprehension} {scope : Scope} {pos py : Pos} {y : Str} {l : Nat} {env : Env} (hk : env.scope.kind = .function) (hy : env.scope.names.lookup y = some .local) (hl : (py.line == pos.line) = true)
    (ha : (scope.names.any fun (n, k) => n == y && (k == .local || k == .cell)) = false) : swapsWith (.DictComp kx vx gs scope pos) (some (.Name y py)) l env = pure true := by
  have ky : env.kindOf y = some .local := hy
  have hb : env.blockKind = .function := by unfold Env.blockKind; rw [hk]; rfl
  unfold swapsWith
  simp only [hb, ky, ha, Expr.pos, hl]
  rfl
section
variable {X : Cx}
theorem ps_setDc {i : Nat} {y : Str} {py : Pos} {kx vx tg iter : Expr} {ifs : List Expr} {scope : Scope} {own : List (Str × Nat)} {pos spos : Pos} {wi : TI} {g : TG} {tt : TT} {tk tv : TE} (hc : X.calm = true) (hN : X.N.Nodup) (hy : X.N[i]? = some y) (hyl : X.env.scope.names.lookup y = some .local)
    (hsw : swapsWith (.DictComp kx vx [⟨tg, iter, ifs, 0⟩] scope pos) (some (.Name y py)) spos.line X.env = pure true) (hi : PI X tg iter wi) (ok : BlkOk X.N X.env.scope scope own)
    (hg : ∀ (s : Shared) (H : Hp) (C : Addr) (cl : List (Str × Addr)) (fp : List Addr), PG (X.blk s H scope (compEnvC scope cl C X.env) fp) tg g) (ht : ∀ (s : Shared) (H : Hp) (C : Addr) (cl : List (Str × Addr)) (fp : List Addr), PTs (X.blk s H scope (compEnvC scope cl C X.env) fp) ifs tt)
    (hk : ∀ (s : Shared) (H : Hp) (C : Addr) (cl : List (Str × Addr)) (fp : List Addr), PE (X.blk s H scope (compEnvC scope cl C X.env) fp) kx tk)
    (he : ∀ (s : Shared) (H : Hp) (C : Addr) (cl : List (Str × Addr)) (fp : List Addr), PE (X.blk s H scope (compEnvC scope cl C X.env) fp) vx tv) (hs : ∀ x, foldedSetIterable iter X.env x = pure x := by intro _; rfl) :
    PS X (.Assign [.Name y py] (.DictComp kx vx [⟨tg, iter, ifs, 0⟩] scope pos) spos) (tAsg (tDc wi g tt tk tv (own.map (·.2))) (gName i)) := by
  refine ⟨fun pins s σ H D I h => ?_⟩
  rw [exec_Assign_Name_used _ _ _ _ hsw]
  refine wpAny_bind (wpAny_standAt (wpAny_bind ?_))
  show wpAny _ X.A (do let _ ← comprehension (.DictComp kx vx [⟨tg, iter, ifs, 0⟩] scope pos) scope X.env (firstIterPos [⟨tg, iter, ifs, 0⟩] pos) newDict false (eval iter X.env) (some (assign (.Name y py) X.env))) _ _ s
  have h : tDc wi g tt tk tv (own.map (·.2)) σ H (fun x H1 => gName i x σ H1 D.nx) := h
  refine wpAny_bind (thn (dc_core (Qf := fun _ s' => SP X pins D .next s') hc hN I hi ok hg ht hk he hs h fun L C s' m H' I' q hn f => ?_) fun _ s' hq => wpAny_pure (wpAny_pure hq))
  show wpAny _ _ (assign (.Name y py) X.env (.ref L)) _ _ _
  refine wpAny_assign_Name (store_ok2 (v := V.ref L) I' hN hy (.inl hyl) rfl (fun s2 I2 ⟨a, sb, ha⟩ => ?_) (.inr hyl))
  obtain ⟨f0, f1, f2, f3, f4, f5⟩ := f
  have haC : C ≠ a := by
    rcases ha with z | z
    · rw [z]; exact f1
    · exact fun e => f4 y a z e.symm
  refine ⟨m, hn.sameBut sb haC, fun h3 sb3 => ?_⟩
  exact ⟨_, H', I2.turned (t' := s2.toks) (fun b o hb e => (sb3.2 b hb).trans e) f0 f1 f3 f4 f5, q⟩
/-! ### rules within a comprehension's block: K stays the same -/
theorem ix_listB {K : PySem.W.Frag} (h : X.K = K) : IxR X (rIxL K) := by
  subst h
  exact ix_list
theorem ix_tupB {K : PySem.W.Frag} (h : X.K = K) : IxR X (rIxT K) := by
  subst h
  exact ix_tup
theorem op_inB {K : PySem.W.Frag} (h : X.K = K) : OpR X (compareOp .In) (rIn K false) := by
  subst h
  exact op_in_seq
theorem op_notInB {K : PySem.W.Frag} (h : X.K = K) : OpR X (compareOp .NotIn) (rIn K true) := by
  subst h
  exact op_notIn_seq
theorem call_lenB {K : PySem.W.Frag} (h : X.K = K) : CallR X (.builtin "len") (fun xs H Q => ∃ p ys, xs = [.ref p] ∧ (SqL K H p ys ∨ SqT K H p ys) ∧ Q (.int ys.length) H) := by
  subst h
  exact call_len_seq
theorem cr_allB {K : PySem.W.Frag} (hc : X.calm = true) (h : X.K = K) : CallR X (.builtin "all") (rAll K) := by
  subst h
  exact cr_all hc
theorem cr_anyB {K : PySem.W.Frag} (hc : X.calm = true) (h : X.K = K) : CallR X (.builtin "any") (rAny K) := by
  subst h
  exact cr_any hc
end
/-- a dict over a list that stays -/
theorem dc_list {K : PySem.W.Frag} {a : Addr} {xs : List V} {g : TG} {tt : TT} {tk tv : TE} {vs : List Nat} {σ : L2.St} {H1 : Hp} {D : Addr} {Qd : Hp → Prop} (Pv : Nat → Hp → Prop) (h0 : Pv 0 (upd H1 D (.dK []))) (hl : ∀ i H, i ≤ xs.length → Pv i H → SqL K H a xs)
    (hs : ∀ i x H, xs[i]? = some x → Pv i H → g x (wipe σ vs) H fun σ2 H2 => wipe σ2 vs = wipe σ vs ∧ tt σ2 H2 fun b H3 =>
      if b = true then tk σ2 H3 fun y H4 => tv σ2 H4 fun z H5 => ∃ kvs k, y = kV k ∧ H5 D = some (.dK kvs) ∧ kvs.length < sizeLine ∧ Pv (i + 1) (upd H5 D (.dK (putK kvs k z))) else Pv (i + 1) H3) (hd : ∀ H, Pv xs.length H → Qd H) :
    ∃ W : Nat → Nat → Hp → Prop, (∃ m, W 0 m (upd H1 D (.dK []))) ∧ ∀ i m H, W i m H →
      ((Itl K a).stop i H ∧ Qd H) ∨ ((Itl K a).go i H ∧ ∃ Nx : Hp → Prop, (∀ H', Nx H' → ∃ m', m' < m ∧ W (i + 1) m' H') ∧ ∀ x H', (Itl K a).yld i H x H' → g x (wipe σ vs) H' fun σ2 H2 => wipe σ2 vs = wipe σ vs ∧ tt σ2 H2 fun b H3 =>
        if b = true then tk σ2 H3 fun y H4 => tv σ2 H4 fun z H5 => ∃ kvs k, y = kV k ∧ H5 D = some (.dK kvs) ∧ kvs.length < sizeLine ∧ Nx (upd H5 D (.dK (putK kvs k z))) else Nx H3) := by
  refine ⟨fun i m H => m = xs.length - i ∧ i ≤ xs.length ∧ Pv i H, ⟨xs.length, by simp, Nat.zero_le _, h0⟩, ?_⟩
  rintro i m H ⟨rfl, hi, p⟩
  have q := hl i H hi p
  by_cases hlt : i < xs.length
  · refine .inr ⟨⟨xs, xs[i], q, by simp [hlt]⟩, Pv (i + 1), fun H' p' => ⟨xs.length - (i + 1), by omega, rfl, hlt, p'⟩, fun x H' y => ?_⟩
    obtain ⟨e, y⟩ := y
    subst e
    exact hs i x _ (y xs q) p
  · have e : i = xs.length := by omega
    subst e
    exact .inl ⟨⟨xs, q, Nat.le_refl _⟩, hd H p⟩
section
variable {ta tb : TE} {σ : L2.St} {H : Hp} {a : Bool} {Q : VK}
theorem go_andL (h : Val ta σ H (.bl a)) (h1 : a = true → tb σ H Q) (h2 : a = false → Q (.bl false) H) : tAndV ta tb σ H Q := h _ ⟨a, rfl, by
  cases a with
  | true => exact h1 rfl
  | false => exact h2 rfl⟩
theorem go_orL (h : Val ta σ H (.bl a)) (h1 : a = true → Q (.bl true) H) (h2 : a = false → tb σ H Q) : tOrV ta tb σ H Q := h _ ⟨a, rfl, by
  cases a with
  | true => exact h1 rfl
  | false => exact h2 rfl⟩
end
theorem go_ret {te : TE} {σ : L2.St} {H : Hp} {D : Ends} (q : te σ H D.rt) : tRet te D σ H := q
theorem but_mut {H H' : Hp} {p o : Addr} {x : HO} (h : But p H H') (n : H o = none) : But p H (upd H' o x) := fun b y nb e => by
  rw [upd_ne (ne_of_none e n)]
  exact h b y nb e
theorem go_min {x y : Int} {H : Hp} {Q : V → Hp → Prop} (q : Q (V.int (if y < x then y else x)) H) : ∃ i j : Int, [V.int x, V.int y] = [V.int i, V.int j] ∧ Q (V.int (if j < i then j else i)) H := ⟨x, y, rfl, q⟩
end LW
set_option Elab.async false
set_option linter.all false
set_option maxRecDepth 100000
set_option maxHeartbeats 4000000
/-! LWFast: steps that keep the goals small: ends are written out (no projections of written-out ends pile up), loops with unnamed ends. -/
namespace LW
open PySem PySem.Spec PyProof.Rows L2 TL
section
variable {σ : L2.St} {H : Hp} {n b c : L2.St → Hp → Prop} {r : VK} {t1 t2 : TS} {te : TE} {g : TG} {tc : TT}
theorem go_seqM (q : t1 ⟨t2 ⟨n, r, b, c⟩, r, b, c⟩ σ H) : tSeq t1 t2 ⟨n, r, b, c⟩ σ H := q
theorem go_nextM (q : n σ H) : tNext ⟨n, r, b, c⟩ σ H := q
theorem go_contM (q : c σ H) : tCont ⟨n, r, b, c⟩ σ H := q
theorem go_brkM (q : b σ H) : tBreak ⟨n, r, b, c⟩ σ H := q
theorem go_retM (q : te σ H r) : tRet te ⟨n, r, b, c⟩ σ H := q
theorem go_asgM (q : te σ H fun x H1 => g x σ H1 n) : tAsg te g ⟨n, r, b, c⟩ σ H := q
theorem go_cutM (M : L2.St → Hp → Prop) (h : t1 ⟨M, r, b, c⟩ σ H) (k : ∀ σ' H', M σ' H' → t2 ⟨n, r, b, c⟩ σ' H') : Evl.tCut t1 t2 ⟨n, r, b, c⟩ σ H := ⟨M, h, k⟩
theorem go_test {Q : Bool → Hp → Prop} (q : te σ H fun v H1 => ∃ b, v = .bl b ∧ Q b H1) : tTest te σ H Q := q
theorem go_rI0 {h : Int → Int → V} {i j : Int} {Q : VK} (q : Q (h i j) H) : rI0 h (.int i) (.int j) H Q := ⟨_, _, rfl, rfl, q⟩
theorem go_gcons {gs : TGs} {v : V} {vs : List V} {Q : L2.St → Hp → Prop} (q : g v σ H fun σ' H' => gs vs σ' H' Q) : gCons g gs (v :: vs) σ H Q := ⟨_, _, rfl, q⟩
theorem go_gnil {Q : L2.St → Hp → Prop} (q : Q σ H) : gNil [] σ H Q := ⟨rfl, q⟩
end
theorem go_op {r : R2} {ta tb : TE} {σ : L2.St} {H : Hp} {Q : VK} (q : ta σ H fun x H1 => tb σ H1 fun y H2 => r x y H2 Q) : tOp r ta tb σ H Q := q
theorem go_var {i : Nat} {v : V} {σ : L2.St} {H : Hp} {Q : VK} (e : σ[i]? = some (some v)) (q : Q v H) : tVar i σ H Q := ⟨v, e, q⟩
theorem go_rng1 {ta : TA} {σ : L2.St} {H : Hp} {R : L2.It → Hp → Prop} (q : ta σ H fun vs H1 => ∃ j : Int, vs = [.int j] ∧ -(2 ^ 62) ≤ j ∧ j < 2 ^ 62 ∧ R (Itr 0 j.toNat) H1) : iRng1 ta σ H R := q
theorem for_rangeQ {lo : Int} {n : Nat} {g : TG} {tb : TS} {D : Ends} {σ : L2.St} {H : Hp} (R : VK) (hR : D.rt = R) (Pv : Nat → L2.St → Hp → Prop) (h0 : Pv 0 σ H)
    (hs : ∀ (N X : L2.St → Hp → Prop) i σ H, i < n → Pv i σ H → (∀ σ' H', Pv (i + 1) σ' H' → N σ' H') → g (.int (lo + i)) σ H fun σ2 H2 => tb ⟨N, R, X, N⟩ σ2 H2) (hd : ∀ σ H, Pv n σ H → D.nx σ H) :
    ∃ W : Nat → Nat → L2.St → Hp → Prop, (∃ m, W 0 m σ H) ∧ ∀ i m σ H, W i m σ H →
      ((Itr lo n).stop i H ∧ D.nx σ H) ∨ ((Itr lo n).go i H ∧ ∃ N : L2.St → Hp → Prop, (∀ σ' H', N σ' H' → ∃ m', m' < m ∧ W (i + 1) m' σ' H') ∧ ∀ x H', (Itr lo n).yld i H x H' → g x σ H' fun σ2 H2 => tb { D with nx := N, ct := N, bk := D.nx } σ2 H2) := by
  subst hR
  exact for_range Pv h0 (fun i σ H hi hP => hs (Pv (i + 1)) D.nx i σ H hi hP fun _ _ h => h) hd
theorem for_listQ {K : PySem.W.Frag} {a : Addr} {xs : List V} {g : TG} {tb : TS} {D : Ends} {σ : L2.St} {H : Hp} (R : VK) (hR : D.rt = R) (Pv : Nat → L2.St → Hp → Prop) (h0 : Pv 0 σ H) (hl : ∀ i σ H, i ≤ xs.length → Pv i σ H → SqL K H a xs)
    (hs : ∀ (N X : L2.St → Hp → Prop) i x σ H, xs[i]? = some x → Pv i σ H → (∀ σ' H', Pv (i + 1) σ' H' → N σ' H') → g x σ H fun σ2 H2 => tb ⟨N, R, X, N⟩ σ2 H2) (hd : ∀ σ H, Pv xs.length σ H → D.nx σ H) :
    ∃ W : Nat → Nat → L2.St → Hp → Prop, (∃ m, W 0 m σ H) ∧ ∀ i m σ H, W i m σ H →
      ((Itl K a).stop i H ∧ D.nx σ H) ∨ ((Itl K a).go i H ∧ ∃ N : L2.St → Hp → Prop, (∀ σ' H', N σ' H' → ∃ m', m' < m ∧ W (i + 1) m' σ' H') ∧ ∀ x H', (Itl K a).yld i H x H' → g x σ H' fun σ2 H2 => tb { D with nx := N, ct := N, bk := D.nx } σ2 H2) := by
  subst hR
  exact for_list Pv h0 hl (fun i x σ H hi hP => hs (Pv (i + 1)) D.nx i x σ H hi hP fun _ _ h => h) hd
theorem for_tupQ {K : PySem.W.Frag} {a : Addr} {xs : List V} {g : TG} {tb : TS} {D : Ends} {σ : L2.St} {H : Hp} (R : VK) (hR : D.rt = R) (Pv : Nat → L2.St → Hp → Prop) (h0 : Pv 0 σ H) (hl : ∀ i σ H, i ≤ xs.length → Pv i σ H → SqT K H a xs)
    (hs : ∀ (N X : L2.St → Hp → Prop) i x σ H, xs[i]? = some x → Pv i σ H → (∀ σ' H', Pv (i + 1) σ' H' → N σ' H') → g x σ H fun σ2 H2 => tb ⟨N, R, X, N⟩ σ2 H2) (hd : ∀ σ H, Pv xs.length σ H → D.nx σ H) :
    ∃ W : Nat → Nat → L2.St → Hp → Prop, (∃ m, W 0 m σ H) ∧ ∀ i m σ H, W i m σ H →
      ((Itt K a).stop i H ∧ D.nx σ H) ∨ ((Itt K a).go i H ∧ ∃ N : L2.St → Hp → Prop, (∀ σ' H', N σ' H' → ∃ m', m' < m ∧ W (i + 1) m' σ' H') ∧ ∀ x H', (Itt K a).yld i H x H' → g x σ H' fun σ2 H2 => tb { D with nx := N, ct := N, bk := D.nx } σ2 H2) := by
  subst hR
  exact for_tup Pv h0 hl (fun i x σ H hi hP => hs (Pv (i + 1)) D.nx i x σ H hi hP fun _ _ h => h) hd
end LW
set_option Elab.async false
set_option linter.all false
set_option maxRecDepth 100000
set_option maxHeartbeats 4000000
namespace K17W
open PySem PySem.Spec PyProof.Rows L2 TL LW
local macro_rules | `(tactic| walk_at "ne") => `(tactic| first
  | assumption
  | exact Ne.symm (by assumption)
  | exact ne_of_none (by assumption) (by assumption)
  | exact (ne_of_none (by assumption) (by assumption)).symm
  | (apply ne_of_none; (case h' => assumption); (case h => walk_at "hp"))
  | (apply Ne.symm; apply ne_of_none; (case h' => assumption); (case h => walk_at "hp")))
local macro_rules | `(tactic| walk_at "hp") => `(tactic| first
  | assumption
  | exact upd_same
  | exact hp_new (by assumption) (by assumption)
  | (apply hp_new; (case n => assumption); (case h => walk_at "hp"))
  | (refine (upd_ne ?ne).trans ?hp; (case ne => walk_at "ne"); (case hp => walk_at "hp")))
local macro_rules | `(tactic| walk_at "sq") => `(tactic| first
  | ((with_reducible show SqL _ _ _ _); assumption)
  | ((with_reducible show SqT _ _ _ _); assumption)
  | exact SqL.of (by assumption)
  | exact SqL.of upd_same
  | exact SqT.of (by assumption)
  | exact SqT.of upd_same
  | (apply SqL.of; walk_at "hp")
  | (apply SqT.of; walk_at "hp"))
local macro_rules | `(tactic| walk_at "len") => `(tactic| first
  | assumption
  | exact sz_small (by omega)
  | exact sz_less (by omega)
  | decide
  | (refine sz_small ?_; simp only [List.length_append, List.length_cons, List.length_nil, List.length_map, str_len]; omega)
  | (refine sz_less ?_; simp only [List.length_append, List.length_cons, List.length_nil, List.length_map, str_len]; omega))
local macro_rules | `(tactic| walk_at "cond") => `(tactic| first
  | omega
  | (split <;> omega)
  | assumption
  | exact .inl ⟨by omega, by omega⟩
  | exact .inr ⟨by omega, by omega⟩
  | exact ⟨by omega, by omega⟩
  | (show (0 : Int) < _; omega)
  | (show (0 : Int) < _; decide +kernel)
  | exact ⟨by omega, by omega, by decide⟩
  | walk_at "len"
  | rfl
  | (show CMulW _ _; unfold CMulW; decide +kernel)
  | exact ⟨_, rfl⟩
  | decide +kernel
  | exact ⟨_, by walk_at "sq"⟩
  | exact .inl ⟨rfl, _, by walk_at "sq"⟩)
local macro_rules | `(tactic| walk_at "at") => `(tactic| first
  | assumption
  | exact atI_nat (by assumption)
  | exact atI_last _ _
  | exact atI_nat (j := 0) rfl
  | exact atI_nat (j := 1) rfl
  | exact atI_nat (j := 2) rfl
  | exact atI_nat (j := 3) rfl
  | exact atI_nat (j := 4) rfl)
local macro_rules | `(tactic| walk_at "ix") => `(tactic| first
  | assumption
  | (with_reducible exact ixN_0 (by simp; done))
  | (with_reducible exact ixN_1 (by simp; done))
  | (with_reducible exact ixN_2 (by simp; done))
  | (with_reducible exact Evl.ixN_nat (by assumption))
  | (with_reducible exact Evl.ixN_nat (by omega)))
local macro_rules | `(tactic| walk_at "v") => `(tactic| first
  | exact val_var rfl
  | (with_reducible exact val_c)
  | (with_reducible apply val_orV; (case ha => walk_at "v"); (case hb => walk_at "v"))
  | (with_reducible apply val_andV; (case ha => walk_at "v"); (case hb => walk_at "v"))
  | (with_reducible apply val_notV; walk_at "v")
  | (with_reducible apply val_ifS; (case h => walk_at "w"); (case ha => walk_at "v"); (case hb => walk_at "v"))
  | (with_reducible apply val_ifI; (case h => walk_at "w"); (case ha => walk_at "v"); (case hb => walk_at "v"))
  | (with_reducible apply val_ifB; (case h => walk_at "w"); (case ha => walk_at "v"); (case hb => walk_at "v"))
  | (with_reducible apply val_eqS; (case ha => walk_at "v"); (case hb => walk_at "v"))
  | (with_reducible apply val_eqI; (case ha => walk_at "v"); (case hb => walk_at "v"))
  | (with_reducible apply val_neS; (case ha => walk_at "v"); (case hb => walk_at "v"))
  | (with_reducible apply val_neI; (case ha => walk_at "v"); (case hb => walk_at "v"))
  | (with_reducible apply val_op; (case ha => walk_at "v"); (case hb => walk_at "v"); (case hr => exact fun Q q => ⟨_, _, rfl, rfl, q⟩)))
local macro_rules | `(tactic| walk_at "w") => `(tactic| first
  | (with_reducible apply ans_or2; (case h1 => walk_at "w"); (case h2 => walk_at "w"))
  | (with_reducible apply ans_and2; (case h1 => walk_at "w"); (case h2 => walk_at "w"))
  | (with_reducible apply ans_not; walk_at "w")
  | (with_reducible apply ans_test; walk_at "v")
  | (with_reducible apply ans_val; walk_at "v"))
local macro_rules | `(tactic| walk_at "s1") => `(tactic| first
  | (with_reducible refine go_c ?_)
  | (with_reducible apply go_pick; (case hs => walk_at "hp"); (case h0 => walk_at "cond"); (case h1 => walk_at "cond"); (case' q => intro k a b c h0 h1))
  | (with_reducible refine go_nil ?_)
  | (with_reducible refine go_cons ?_)
  | (with_reducible refine go_call ?_)
  | (with_reducible refine go_cb ?_)
  | (with_reducible refine go_next ?_)
  | (with_reducible refine go_cont ?_)
  | (with_reducible refine go_ret ?_)
  | (with_reducible refine go_name ?_)
  | (with_reducible refine go_seq ?_)
  | (with_reducible refine go_asg ?_)
  | (with_reducible apply go_or; (case h => walk_at "v"))
  | (with_reducible apply go_and; (case h => walk_at "v"))
  | (with_reducible apply go_andL; (case h => walk_at "v"); (case' h1 => intro e); (case' h2 => intro e))
  | (with_reducible apply go_orL; (case h => walk_at "v"); (case' h1 => intro e); (case' h2 => intro e))
  | (with_reducible apply go_ifE; (case h => walk_at "v"))
  | (with_reducible apply go_ifOr; (case h => walk_at "w"); (case' h1 => intro e); (case' h2 => intro e))
  | (with_reducible apply go_ifAnd; (case h => walk_at "w"); (case' h1 => intro e); (case' h2 => intro e))
  | (with_reducible refine go_min ?_)
  | refine ⟨_, rfl, ?_⟩
  | refine ⟨_, _, rfl, rfl, ?_⟩
  | (refine And.intro ?cc ?_; (case cc => walk_at "cond"))
  | refine ⟨_, _, _, _, rfl, rfl, by walk_at "sq", by walk_at "at", ?_⟩
  | refine ⟨_, _, _, _, rfl, rfl, by walk_at "hp", by walk_at "ix", ?_⟩
  | refine ⟨_, _, _, _, rfl, rfl, by walk_at "hp", by walk_at "hp", by walk_at "len", ?_⟩
  | refine ⟨_, _, _, rfl, rfl, by walk_at "len", by walk_at "at", ?_⟩
  | refine ⟨_, _, _, rfl, rfl, by walk_at "hp", by walk_at "len", ?_⟩
  | refine ⟨_, _, _, rfl, rfl, by walk_at "hp", by walk_at "at", ?_⟩
  | refine ⟨_, _, rfl, rfl, by walk_at "sq", ?_⟩
  | refine ⟨_, _, rfl, rfl, by walk_at "len", ?_⟩
  | refine ⟨_, _, rfl, by walk_at "sq", ?_⟩
  | refine ⟨_, _, rfl, .inl (by walk_at "sq"), ?_⟩
  | refine ⟨_, _, rfl, .inr (by walk_at "sq"), ?_⟩
  | refine ⟨_, _, rfl, by walk_at "sq", rfl, ?_⟩
  | refine ⟨_, fun _ _ h => h, ?_⟩
  | refine ⟨_, _, rfl, ?_⟩
  | refine .inl ⟨_, rfl, ?_⟩
  | refine ⟨_, _, .type "int", .type _, true, rfl, ClsV.ty _, .base (.int _), kit_ty (by decide +kernel), ?_⟩
  | refine ⟨_, _, .type "int", .type _, false, rfl, ClsV.ty _, .base (.int _), kit_ty (by decide +kernel), ?_⟩
  | refine ⟨_, _, .type "bool", .type _, true, rfl, ClsV.ty _, .base (.bl _), kit_ty (by decide +kernel), ?_⟩
  | refine ⟨_, _, .type "bool", .type _, false, rfl, ClsV.ty _, .base (.bl _), kit_ty (by decide +kernel), ?_⟩
  | refine ⟨_, _, .type "str", .type _, true, rfl, ClsV.ty _, .base (.str _), kit_ty (by decide +kernel), ?_⟩
  | refine ⟨_, _, .type "str", .type _, false, rfl, ClsV.ty _, .base (.str _), kit_ty (by decide +kernel), ?_⟩
  | refine ⟨_, _, .type "NoneType", .type _, true, rfl, ClsV.ty _, .base (.non), kit_ty (by decide +kernel), ?_⟩
  | refine ⟨_, _, .type "NoneType", .type _, false, rfl, ClsV.ty _, .base (.non), kit_ty (by decide +kernel), ?_⟩
  | refine ⟨_, _, .type "list", .type _, true, rfl, ClsV.ty _, .base (.lst (by walk_at "hp")), kit_ty (by decide +kernel), ?_⟩
  | refine ⟨_, _, .type "list", .type _, false, rfl, ClsV.ty _, .base (.lst (by walk_at "hp")), kit_ty (by decide +kernel), ?_⟩
  | refine ⟨_, _, .type "tuple", .type _, true, rfl, ClsV.ty _, .base (.tup (by walk_at "hp")), kit_ty (by decide +kernel), ?_⟩
  | refine ⟨_, _, .type "tuple", .type _, false, rfl, ClsV.ty _, .base (.tup (by walk_at "hp")), kit_ty (by decide +kernel), ?_⟩
  | (refine fun (p : Addr) (hp : _ = none) => ?_)
  | refine iteT ?_
  | refine iteF ?_
  | refine iteD (fun _ => ?_) (fun e => absurd rfl e)
  | refine iteS (fun e => ?_) (fun e => ?_)
  | refine iteI (fun e => ?_) (fun e => ?_)
  | refine iteSn (fun e => ?_) (fun e => ?_)
  | refine iteIn (fun e => ?_) (fun e => ?_)
  | refine iteD (fun e => ?_) (fun e => ?_)
  | refine iteDn (fun e => ?_) (fun e => ?_)
  | refine ite2 (fun e => ?_) (fun e => ?_))
local macro_rules | `(tactic| walk_at "s") => `(tactic| repeat' (first
  | (with_reducible refine go_c ?_)
  | (with_reducible apply go_pick; (case hs => walk_at "hp"); (case h0 => walk_at "cond"); (case h1 => walk_at "cond"); (case' q => intro k a b c h0 h1))
  | (with_reducible refine go_nil ?_)
  | (with_reducible refine go_cons ?_)
  | (with_reducible refine go_call ?_)
  | (with_reducible refine go_cb ?_)
  | (with_reducible refine go_next ?_)
  | (with_reducible refine go_cont ?_)
  | (with_reducible refine go_ret ?_)
  | (with_reducible refine go_name ?_)
  | (with_reducible refine go_seq ?_)
  | (with_reducible refine go_asg ?_)
  | (with_reducible apply go_or; (case h => walk_at "v"))
  | (with_reducible apply go_and; (case h => walk_at "v"))
  | (with_reducible apply go_andL; (case h => walk_at "v"); (case' h1 => intro e); (case' h2 => intro e))
  | (with_reducible apply go_orL; (case h => walk_at "v"); (case' h1 => intro e); (case' h2 => intro e))
  | (with_reducible apply go_ifE; (case h => walk_at "v"))
  | (with_reducible apply go_ifOr; (case h => walk_at "w"); (case' h1 => intro e); (case' h2 => intro e))
  | (with_reducible apply go_ifAnd; (case h => walk_at "w"); (case' h1 => intro e); (case' h2 => intro e))
  | (with_reducible refine go_min ?_)
  | refine ⟨_, rfl, ?_⟩
  | refine ⟨_, _, rfl, rfl, ?_⟩
  | (refine And.intro ?cc ?_; (case cc => walk_at "cond"))
  | refine ⟨_, _, _, _, rfl, rfl, by walk_at "sq", by walk_at "at", ?_⟩
  | refine ⟨_, _, _, _, rfl, rfl, by walk_at "hp", by walk_at "ix", ?_⟩
  | refine ⟨_, _, _, _, rfl, rfl, by walk_at "hp", by walk_at "hp", by walk_at "len", ?_⟩
  | refine ⟨_, _, _, rfl, rfl, by walk_at "len", by walk_at "at", ?_⟩
  | refine ⟨_, _, _, rfl, rfl, by walk_at "hp", by walk_at "len", ?_⟩
  | refine ⟨_, _, _, rfl, rfl, by walk_at "hp", by walk_at "at", ?_⟩
  | refine ⟨_, _, rfl, rfl, by walk_at "sq", ?_⟩
  | refine ⟨_, _, rfl, rfl, by walk_at "len", ?_⟩
  | refine ⟨_, _, rfl, by walk_at "sq", ?_⟩
  | refine ⟨_, _, rfl, .inl (by walk_at "sq"), ?_⟩
  | refine ⟨_, _, rfl, .inr (by walk_at "sq"), ?_⟩
  | refine ⟨_, _, rfl, by walk_at "sq", rfl, ?_⟩
  | refine ⟨_, fun _ _ h => h, ?_⟩
  | refine ⟨_, _, rfl, ?_⟩
  | refine .inl ⟨_, rfl, ?_⟩
  | refine ⟨_, _, .type "int", .type _, true, rfl, ClsV.ty _, .base (.int _), kit_ty (by decide +kernel), ?_⟩
  | refine ⟨_, _, .type "int", .type _, false, rfl, ClsV.ty _, .base (.int _), kit_ty (by decide +kernel), ?_⟩
  | refine ⟨_, _, .type "bool", .type _, true, rfl, ClsV.ty _, .base (.bl _), kit_ty (by decide +kernel), ?_⟩
  | refine ⟨_, _, .type "bool", .type _, false, rfl, ClsV.ty _, .base (.bl _), kit_ty (by decide +kernel), ?_⟩
  | refine ⟨_, _, .type "str", .type _, true, rfl, ClsV.ty _, .base (.str _), kit_ty (by decide +kernel), ?_⟩
  | refine ⟨_, _, .type "str", .type _, false, rfl, ClsV.ty _, .base (.str _), kit_ty (by decide +kernel), ?_⟩
  | refine ⟨_, _, .type "NoneType", .type _, true, rfl, ClsV.ty _, .base (.non), kit_ty (by decide +kernel), ?_⟩
  | refine ⟨_, _, .type "NoneType", .type _, false, rfl, ClsV.ty _, .base (.non), kit_ty (by decide +kernel), ?_⟩
  | refine ⟨_, _, .type "list", .type _, true, rfl, ClsV.ty _, .base (.lst (by walk_at "hp")), kit_ty (by decide +kernel), ?_⟩
  | refine ⟨_, _, .type "list", .type _, false, rfl, ClsV.ty _, .base (.lst (by walk_at "hp")), kit_ty (by decide +kernel), ?_⟩
  | refine ⟨_, _, .type "tuple", .type _, true, rfl, ClsV.ty _, .base (.tup (by walk_at "hp")), kit_ty (by decide +kernel), ?_⟩
  | refine ⟨_, _, .type "tuple", .type _, false, rfl, ClsV.ty _, .base (.tup (by walk_at "hp")), kit_ty (by decide +kernel), ?_⟩
  | (refine fun (p : Addr) (hp : _ = none) => ?_)
  | refine iteT ?_
  | refine iteF ?_
  | refine iteD (fun _ => ?_) (fun e => absurd rfl e)
  | refine iteS (fun e => ?_) (fun e => ?_)
  | refine iteI (fun e => ?_) (fun e => ?_)
  | refine iteSn (fun e => ?_) (fun e => ?_)
  | refine iteIn (fun e => ?_) (fun e => ?_)
  | refine iteD (fun e => ?_) (fun e => ?_)
  | refine iteDn (fun e => ?_) (fun e => ?_)
  | refine ite2 (fun e => ?_) (fun e => ?_)))

def topS (i : Nat) : Stmt := PySem.Challenge.pw_tellsasleep_k17_made_and_ways_around.main.body.getD i (.Pass ⟨0, 0, 0, 0⟩)
abbrev s_bound : Stmt := topS 7
theorem sc_bound : FnScope ["what", "number"] ["what", "number"] (defScope s_bound) := ⟨rfl, rfl, rfl, by decide +kernel, rfl, by decide +kernel, by decide +kernel⟩
abbrev s_made_flags : Stmt := topS 9
theorem sc_made_flags : FnScope ["rows", "kept", "node", "held", "flags", "size", "operands", "source", "operand"] ["rows", "kept"] (defScope s_made_flags) := ⟨rfl, rfl, rfl, by decide +kernel, rfl, by decide +kernel, by decide +kernel⟩
abbrev s_made_nodes : Stmt := topS 10
theorem sc_made_nodes : FnScope ["rows", "kept", "flags", "node"] ["rows", "kept"] (defScope s_made_nodes) := ⟨rfl, rfl, rfl, by decide +kernel, rfl, by decide +kernel, by decide +kernel⟩
abbrev s_way_around : Stmt := topS 11
theorem sc_way_around : FnScope ["rows", "kept", "node", "flags", "way", "operand"] ["rows", "kept", "node"] (defScope s_way_around) := ⟨rfl, rfl, rfl, by decide +kernel, rfl, by decide +kernel, by decide +kernel⟩
abbrev s_Net___init__ : Stmt := inClass (topS 13) 0
theorem sc_Net___init__ : FnScope ["self", "rows", "node", "size", "operands", "source", "operand"] ["self", "rows"] (defScope s_Net___init__) := ⟨rfl, rfl, rfl, by decide +kernel, rfl, by decide +kernel, by decide +kernel⟩
abbrev s_Net_made : Stmt := inClass (topS 13) 1
theorem sc_Net_made : FnScope ["self", "kept"] ["self", "kept"] (defScope s_Net_made) := ⟨rfl, rfl, rfl, by decide +kernel, rfl, by decide +kernel, by decide +kernel⟩
abbrev s_Net_around : Stmt := inClass (topS 13) 2
theorem sc_Net_around : FnScope ["self", "kept", "node"] ["self", "kept", "node"] (defScope s_Net_around) := ⟨rfl, rfl, rfl, by decide +kernel, rfl, by decide +kernel, by decide +kernel⟩
abbrev s_law_source : Stmt := topS 15
theorem sc_law_source : FnScope ["script", "at", "limit", "cell", "cells", "state", "great"] ["script", "at"] (defScope s_law_source) := ⟨rfl, rfl, rfl, by decide +kernel, rfl, by decide +kernel, by decide +kernel⟩
abbrev s_law_pick : Stmt := topS 16
theorem sc_law_pick : FnScope ["source", "many", "found", "state"] ["source", "many"] (defScope s_law_pick) := ⟨rfl, rfl, rfl, by decide +kernel, rfl, by decide +kernel, by decide +kernel⟩
abbrev s_law_same : Stmt := topS 17
theorem sc_law_same : FnScope ["answer", "due", "key", "one", "other"] ["answer", "due"] (defScope s_law_same) := ⟨rfl, rfl, rfl, by decide +kernel, rfl, by decide +kernel, by decide +kernel⟩
abbrev s_law_c_made : Stmt := topS 18
theorem sc_law_c_made : FnScope ["rows", "kept", "flags", "node", "operand"] ["rows", "kept"] (defScope s_law_c_made) := ⟨rfl, rfl, rfl, by decide +kernel, rfl, by decide +kernel, by decide +kernel⟩
abbrev s_law_c_living : Stmt := topS 19
theorem sc_law_c_living : FnScope ["rows", "wanted", "node", "above", "turn", "operand", "bare"] ["rows", "wanted"] (defScope s_law_c_living) := ⟨rfl, rfl, rfl, by decide +kernel, rfl, by decide +kernel, by decide +kernel⟩
abbrev s_law_c_weight : Stmt := topS 20
theorem sc_law_c_weight : FnScope ["rows", "nodes", "node"] ["rows", "nodes"] (defScope s_law_c_weight) := ⟨rfl, rfl, rfl, by decide +kernel, rfl, by decide +kernel, by decide +kernel⟩
abbrev s_law_c_next : Stmt := topS 21
theorem sc_law_c_next : FnScope ["rows", "wanted", "living", "users", "flow", "point", "node", "found", "operand", "user"] ["rows", "wanted", "living", "users", "flow", "point"] (defScope s_law_c_next) := ⟨rfl, rfl, rfl, by decide +kernel, rfl, by decide +kernel, by decide +kernel⟩
abbrev s_law_c_flow : Stmt := topS 22
theorem sc_law_c_flow : FnScope ["rows", "wanted", "living", "users", "node", "operand", "flow", "number", "turn", "queue", "came", "point", "last", "here", "there", "step", "before", "pair", "back"] ["rows", "wanted"] (defScope s_law_c_flow) := ⟨rfl, rfl, rfl, by decide +kernel, rfl, by decide +kernel, by decide +kernel⟩
abbrev s_law_c_earliest : Stmt := topS 23
theorem sc_law_c_earliest : FnScope ["rows", "wanted", "number", "flow", "came", "node"] ["rows", "wanted"] (defScope s_law_c_earliest) := ⟨rfl, rfl, rfl, by decide +kernel, rfl, by decide +kernel, by decide +kernel⟩
abbrev s_law_c_net : Stmt := topS 24
theorem sc_law_c_net : FnScope ["source", "many", "rows", "node", "size", "kind", "near", "operands", "turn"] ["source", "many"] (defScope s_law_c_net) := ⟨rfl, rfl, rfl, by decide +kernel, rfl, by decide +kernel, by decide +kernel⟩
abbrev s_law_c_goals : Stmt := topS 25
theorem sc_law_c_goals : FnScope ["source", "rows", "most", "found", "turn", "node"] ["source", "rows", "most"] (defScope s_law_c_goals) := ⟨rfl, rfl, rfl, by decide +kernel, rfl, by decide +kernel, by decide +kernel⟩
abbrev s_law_c_around : Stmt := topS 26
theorem sc_law_c_around : FnScope ["rows", "kept", "node", "flags", "way", "turn", "operand"] ["rows", "kept", "node"] (defScope s_law_c_around) := ⟨rfl, rfl, rfl, by decide +kernel, rfl, by decide +kernel, by decide +kernel⟩
abbrev s_law : Stmt := topS 27
theorem sc_law : FnScope ["script", "worlds", "turn", "source", "rows", "lots", "goals", "at", "net", "kept", "flags", "told", "node", "one", "k"] ["script"] (defScope s_law) := ⟨rfl, rfl, rfl, by decide +kernel, rfl, by decide +kernel, by decide +kernel⟩
structure Top (w : World) (K : PySem.W.Frag) (mg : Str → Option Value) where
  C_Net : Addr
  m_Net : mg "Net" = some (.ref C_Net)
  cl_Net : Cls K C_Net
  n_Net_own_nodes : NoAttr K C_Net "own_nodes"
  a_bound : Addr
  d_bound : FuncData
  F_bound : Fun K "bound" "bound" s_bound a_bound d_bound
  b_bound : Binds K d_bound ["what", "number"] []
  m_bound : mg "bound" = some (.ref a_bound)
  a_made_flags : Addr
  d_made_flags : FuncData
  F_made_flags : Fun K "made_flags" "made_flags" s_made_flags a_made_flags d_made_flags
  b_made_flags : Binds K d_made_flags ["rows", "kept"] []
  m_made_flags : mg "made_flags" = some (.ref a_made_flags)
  a_made_nodes : Addr
  d_made_nodes : FuncData
  F_made_nodes : Fun K "made_nodes" "made_nodes" s_made_nodes a_made_nodes d_made_nodes
  b_made_nodes : Binds K d_made_nodes ["rows", "kept"] []
  m_made_nodes : mg "made_nodes" = some (.ref a_made_nodes)
  a_way_around : Addr
  d_way_around : FuncData
  F_way_around : Fun K "way_around" "way_around" s_way_around a_way_around d_way_around
  b_way_around : Binds K d_way_around ["rows", "kept", "node"] []
  m_way_around : mg "way_around" = some (.ref a_way_around)
  a_Net___init__ : Addr
  d_Net___init__ : FuncData
  F_Net___init__ : Fun K "__init__" "Net.__init__" s_Net___init__ a_Net___init__ d_Net___init__
  b_Net___init__ : Binds K d_Net___init__ ["self", "rows"] []
  M_Net___init__ : Mk K C_Net a_Net___init__
  a_Net_made : Addr
  d_Net_made : FuncData
  F_Net_made : Fun K "made" "Net.made" s_Net_made a_Net_made d_Net_made
  b_Net_made : Binds K d_Net_made ["self", "kept"] []
  M_Net_made : Meth K C_Net "made" a_Net_made
  a_Net_around : Addr
  d_Net_around : FuncData
  F_Net_around : Fun K "around" "Net.around" s_Net_around a_Net_around d_Net_around
  b_Net_around : Binds K d_Net_around ["self", "kept", "node"] []
  M_Net_around : Meth K C_Net "around" a_Net_around
  a_law_source : Addr
  d_law_source : FuncData
  F_law_source : Fun K "_law_source" "_law_source" s_law_source a_law_source d_law_source
  b_law_source : Binds K d_law_source ["script", "at"] []
  m_law_source : mg "_law_source" = some (.ref a_law_source)
  a_law_pick : Addr
  d_law_pick : FuncData
  F_law_pick : Fun K "_law_pick" "_law_pick" s_law_pick a_law_pick d_law_pick
  b_law_pick : Binds K d_law_pick ["source", "many"] []
  m_law_pick : mg "_law_pick" = some (.ref a_law_pick)
  a_law_same : Addr
  d_law_same : FuncData
  F_law_same : Fun K "_law_same" "_law_same" s_law_same a_law_same d_law_same
  b_law_same : Binds K d_law_same ["answer", "due"] []
  m_law_same : mg "_law_same" = some (.ref a_law_same)
  a_law_c_made : Addr
  d_law_c_made : FuncData
  F_law_c_made : Fun K "_law_c_made" "_law_c_made" s_law_c_made a_law_c_made d_law_c_made
  b_law_c_made : Binds K d_law_c_made ["rows", "kept"] []
  m_law_c_made : mg "_law_c_made" = some (.ref a_law_c_made)
  a_law_c_living : Addr
  d_law_c_living : FuncData
  F_law_c_living : Fun K "_law_c_living" "_law_c_living" s_law_c_living a_law_c_living d_law_c_living
  b_law_c_living : Binds K d_law_c_living ["rows", "wanted"] []
  m_law_c_living : mg "_law_c_living" = some (.ref a_law_c_living)
  a_law_c_weight : Addr
  d_law_c_weight : FuncData
  F_law_c_weight : Fun K "_law_c_weight" "_law_c_weight" s_law_c_weight a_law_c_weight d_law_c_weight
  b_law_c_weight : Binds K d_law_c_weight ["rows", "nodes"] []
  m_law_c_weight : mg "_law_c_weight" = some (.ref a_law_c_weight)
  a_law_c_next : Addr
  d_law_c_next : FuncData
  F_law_c_next : Fun K "_law_c_next" "_law_c_next" s_law_c_next a_law_c_next d_law_c_next
  b_law_c_next : Binds K d_law_c_next ["rows", "wanted", "living", "users", "flow", "point"] []
  m_law_c_next : mg "_law_c_next" = some (.ref a_law_c_next)
  a_law_c_flow : Addr
  d_law_c_flow : FuncData
  F_law_c_flow : Fun K "_law_c_flow" "_law_c_flow" s_law_c_flow a_law_c_flow d_law_c_flow
  b_law_c_flow : Binds K d_law_c_flow ["rows", "wanted"] []
  m_law_c_flow : mg "_law_c_flow" = some (.ref a_law_c_flow)
  a_law_c_earliest : Addr
  d_law_c_earliest : FuncData
  F_law_c_earliest : Fun K "_law_c_earliest" "_law_c_earliest" s_law_c_earliest a_law_c_earliest d_law_c_earliest
  b_law_c_earliest : Binds K d_law_c_earliest ["rows", "wanted"] []
  m_law_c_earliest : mg "_law_c_earliest" = some (.ref a_law_c_earliest)
  a_law_c_net : Addr
  d_law_c_net : FuncData
  F_law_c_net : Fun K "_law_c_net" "_law_c_net" s_law_c_net a_law_c_net d_law_c_net
  b_law_c_net : Binds K d_law_c_net ["source", "many"] []
  m_law_c_net : mg "_law_c_net" = some (.ref a_law_c_net)
  a_law_c_goals : Addr
  d_law_c_goals : FuncData
  F_law_c_goals : Fun K "_law_c_goals" "_law_c_goals" s_law_c_goals a_law_c_goals d_law_c_goals
  b_law_c_goals : Binds K d_law_c_goals ["source", "rows", "most"] []
  m_law_c_goals : mg "_law_c_goals" = some (.ref a_law_c_goals)
  a_law_c_around : Addr
  d_law_c_around : FuncData
  F_law_c_around : Fun K "_law_c_around" "_law_c_around" s_law_c_around a_law_c_around d_law_c_around
  b_law_c_around : Binds K d_law_c_around ["rows", "kept", "node"] []
  m_law_c_around : mg "_law_c_around" = some (.ref a_law_c_around)
  a_law : Addr
  d_law : FuncData
  F_law : Fun K "law" "law" s_law a_law d_law
  b_law : Binds K d_law ["script"] []
  m_law : mg "law" = some (.ref a_law)
  bt_law : ∀ (s : Shared) (v : Value), BindsTo s d_law ⟨[v], []⟩ [("script", v)]
  a_LIMITS : Addr
  m_LIMITS : mg "LIMITS" = some (.ref a_LIMITS)
  k_LIMITS_nodes : KDct K w a_LIMITS "nodes" (.int 400)
  m_all : mg "all" = none
  m_bool : mg "bool" = none
  m_dict : mg "dict" = none
  m_int : mg "int" = none
  m_isinstance : mg "isinstance" = none
  m_len : mg "len" = none
  m_list : mg "list" = none
  m_min : mg "min" = none
  m_range : mg "range" = none
  m_reversed : mg "reversed" = none
  m_str : mg "str" = none
  m_sum : mg "sum" = none
  m_tuple : mg "tuple" = none
  m_zip : mg "zip" = none
section
variable {P : Program} {w : World} {K : PySem.W.Frag} {mg : Str → Option Value} {base : Heap}
/-! ### a number from 0 to many - 1; the source may turn -/
def spPick : Sp := fun vs H Q _ => ∃ (s : Addr) (a b c many : Int), vs = [.ref s, .int many] ∧ H s = some (.lst [.int a, .int b, .int c]) ∧ 0 < many ∧ many < 1073741824 ∧
  ∀ k a' b' c' : Int, 0 ≤ k → k < many → Q (.int k) (upd H s (.lst [.int a', .int b', .int c']))
theorem go_pick {s : Addr} {a b c many : Int} {H : Hp} {Q : VK} {E : XK} (hs : H s = some (.lst [.int a, .int b, .int c])) (h0 : 0 < many) (h1 : many < 1073741824)
    (q : ∀ k a' b' c' : Int, 0 ≤ k → k < many → Q (.int k) (upd H s (.lst [.int a', .int b', .int c']))) : spPick ([.ref s, .int many] ++ []) H Q E := ⟨s, a, b, c, many, rfl, hs, h0, h1, q⟩
theorem ok_pick (T : Top w K mg) : FnOk P w K mg base CX0 1 T.a_law_pick T.d_law_pick ["source", "many"] spPick := by
  refine T.F_law_pick.ok sc_law_pick (fun vs H Q E h => ?_) (fun cdv A outer s H vs Q E hr h => ?_)
  · obtain ⟨s, a, b, c, m, rfl, _⟩ := h
    rfl
  · obtain ⟨s, a, b, c, m, rfl, hs, m0, m1, q⟩ := h
    refine ⟨_, (pss_cons (ps_if (pt_cmpR op_gt (pe_ix ix_list (pv 0) pe_int (fun _ _ => rfl)) pe_int (nomark _))
    (pss_cons (ps_set (i := 2) sc_law_pick.nd rfl (.inl rfl) (pe_op op_mod (pe_ix ix_list (pv 0) pe_int (fun _ _ => rfl)) (pv 1)))
    (pss_cons (ps_asg (pe_op op_fdiv (pe_ix ix_list (pv 0) pe_int (fun _ _ => rfl)) (pv 1)) (pg_sub (pv 0) pe_int set_list))
    (pss_one (ps_ret (pv 2)))))
    pss_nil)
    (pss_cons (ps_asg (pe_op op_add (pe_ix ix_list (pv 0) pe_int (fun _ _ => rfl)) pe_int) (pg_sub (pv 0) pe_int set_list))
    (pss_cons (ps_set (i := 3) sc_law_pick.nd rfl (.inl rfl) (pe_op op_mod (pe_op op_add (pe_op op_add (pe_op op_mul (pe_ix ix_list (pv 0) pe_int (fun _ _ => rfl)) pe_int) (pe_op op_mul (pe_ix ix_list (pv 0) pe_int (fun _ _ => rfl)) pe_int)) pe_int) pe_int))
    (pss_cons (ps_set (i := 3) sc_law_pick.nd rfl (.inl rfl) (pe_op op_mod (pe_op op_add (pe_op op_add (pe_op op_mul (pv 3) pe_int) (pe_op op_mul (pe_ix ix_list (pv 0) pe_int (fun _ _ => rfl)) pe_int)) pe_int) pe_int))
    (pss_cons (ps_asg (pv 3) (pg_sub (pv 0) pe_int set_list))
    (pss_one (ps_ret (pe_op op_mod (pe_op op_fdiv (pv 3) pe_int) (pv 1))))))))), ?_⟩
    walk_at "s"
    · exact q _ _ _ _ (Int.emod_nonneg _ (by omega)) (Int.emod_lt_of_pos _ m0)
    · rw [upd_upd]
      exact q _ _ _ _ (Int.emod_nonneg _ (by omega)) (Int.emod_lt_of_pos _ m0)
/-! ### the source of a script -/
def spSource (K : PySem.W.Frag) : Sp := fun vs H Q _ => ∃ (l : Addr) (ns : List Int) (n : Nat), vs = [.ref l, .int n] ∧ SqL K H l (ns.map V.int) ∧ ns.length ≤ 63 ∧ n ≤ 1000 ∧
  ∀ (s : Addr) (a b c : Int) (H' : Hp), Same H H' → H s = none → H' s = some (.lst [.int a, .int b, .int c]) → Q (.ref s) H'
theorem ok_source (T : Top w K mg) : FnOk P w K mg base CX0 1 T.a_law_source T.d_law_source ["script", "at"] (spSource K) := by
  refine T.F_law_source.ok sc_law_source (fun vs H Q E h => ?_) (fun cdv A outer s H vs Q E hr h => ?_)
  · obtain ⟨l, ns, n, rfl, _⟩ := h
    rfl
  · obtain ⟨l, ns, n, rfl, hl, hn, hb, q⟩ := h
    refine ⟨_, (pss_cons (ps_set (i := 2) sc_law_source.nd rfl (.inr rfl) (pe_op op_mulW (pe_op op_mulW (pe_op op_mulW (pe_op op_mulW (pe_op op_mulW (pe_op op_pow pe_int pe_int) (pe_op op_pow pe_int pe_int)) (pe_op op_pow pe_int pe_int)) (pe_op op_pow pe_int pe_int)) (pe_op op_pow pe_int pe_int)) (pe_op op_pow pe_int pe_int)))
    (pss_cons (ps_setLc (i := 4) (own := [("cell", 3)]) rfl sc_law_source.nd rfl rfl (sw_true rfl rfl rfl (by decide +kernel)) (pi_list (pe_slice sl_list (pv 0) po_none (po_some pe_int))) (blkOk_by (own := [("cell", 3)]) (N := ["script", "at", "limit", "cell", "cells", "state", "great"]) (sc := defScope s_law_source) (by decide +kernel)) (fun _ _ _ _ _ => (pg_name (i := 3) sc_law_source.nd rfl (.inl rfl))) (fun _ _ _ _ _ => pts_nil) (fun _ _ _ _ _ => (pe_op op_mod (pe_callTy call_int1 (by rfl) T.m_int (by decide +kernel) (pa_cons (pv 3) pa_nil)) (pv 2))))
    (pss_cons (ps_set (i := 5) sc_law_source.nd rfl (.inl rfl) (pe_op op_add pe_int (pe_op op_mul (pv 1) pe_int)))
    (pss_cons (ps_for PassesOwn.never rfl (pi_list (pv 4)) (pg_name (i := 3) sc_law_source.nd rfl (.inl rfl))
    (pss_one (ps_set (i := 5) sc_law_source.nd rfl (.inl rfl) (pe_op op_mod (pe_op op_add (pe_op op_add (pe_op op_mul (pv 5) pe_int) (pe_op op_mod (pv 3) pe_int)) pe_int) pe_int))))
    (pss_cons (ps_set (i := 6) sc_law_source.nd rfl (.inl rfl) (pe_ifExp (pt_cmpR op_gt (pe_callB call_len_seq (by rfl) T.m_len (by decide +kernel) (pa_cons (pv 4) pa_nil)) pe_int (nomark _)) (pe_ix ix_list (pv 4) (pe_op op_mod (pv 1) (pe_callB call_len_seq (by rfl) T.m_len (by decide +kernel) (pa_cons (pv 4) pa_nil))) (fun _ _ => rfl)) pe_int))
    (pss_one (ps_ret (pe_lst (pa_cons (pe_ifExp (pt_cmpR op_ge (pv 6) (pe_op op_pow pe_int pe_int) (nomark _)) (pv 6) pe_int) (pa_cons (pv 5) (pa_cons (pe_op op_mod (pv 1) pe_int) pa_nil))))))))))), ?_⟩
    walk_at "s"
    rename_i c hc D hD
    have ec : cutV (ns.map V.int) none (some 63) = (ns.take 63).map V.int := by
      rw [show (63 : Int) = ((63 : Nat) : Int) from rfl, cut_take, List.map_take]
    rw [ec] at hD ⊢
    have hl1 : Same H (upd H c (.lst ((ns.take 63).map V.int))) := same_new hc
    have hl2 := hl1.trans (same_new (o := .lst []) hD)
    refine lc_list (xs := (ns.take 63).map V.int) (fun i H1 => ∃ ms : List Int, ms.length = i ∧ Same H H1 ∧ H1 c = some (.lst ((ns.take 63).map V.int)) ∧ H1 D = some (.lst (ms.map V.int))) ?_ ?_ ?_ ?_
    · exact ⟨[], rfl, hl2, by walk_at "hp", upd_same⟩
    · intro i H1 hi hP
      obtain ⟨ms, e1, sm, h1, h2⟩ := hP
      exact SqL.of h1
    · intro i x H1 hi hP
      obtain ⟨ms, e1, sm, h1, h2⟩ := hP
      obtain ⟨v, rfl, hv⟩ := map_get hi
      walk_at "s"
      have hi' : i < 63 := by
        have := (List.getElem?_eq_some_iff.mp hv).1
        rw [List.length_take] at this
        omega
      have nc : c ≠ D := by walk_at "ne"
      have nD : H D = none := hl1.free hD
      exact ⟨_, h2, sz_less (by rw [List.length_map]; omega), ms ++ [_], by simp [e1], same_mut sm nD, (upd_ne nc).trans h1, by rw [upd_same, List.map_append]; rfl⟩
    · intro H1 hP
      obtain ⟨ms, e1, sm, h1, h2⟩ := hP
      walk_at "s"
      refine for_list (xs := ms.map V.int) (fun i σ H2 => ∃ v0 v5 v6, σ = [some (.ref l), some (.int n), v0, v5, some (.ref D), some (.int v6), none] ∧ H2 = H1) ⟨_, _, _, rfl, rfl⟩ ?_ ?_ ?_
      · intro i σ H2 hi hP
        obtain ⟨v0, v5, v6, rfl, rfl⟩ := hP
        exact SqL.of h2
      · intro i x σ H2 hi hP
        obtain ⟨v0, v5, v6, rfl, rfl⟩ := hP
        obtain ⟨v, rfl, hv⟩ := map_get hi
        walk_at "s"
        exact ⟨_, _, _, rfl, rfl⟩
      · intro σ H2 hP
        obtain ⟨v0, v5, v6, rfl, rfl⟩ := hP
        walk_at "s"
        · rename_i e0
          obtain ⟨g, hg, ha⟩ := atI_map (f := V.int) (ms := ms) (i := (n : Int) % ((ms.map V.int).length : Int)) (Int.emod_nonneg _ (by omega)) (by
            have := Int.emod_lt_of_pos (n : Int) e0
            rw [List.length_map] at this ⊢
            exact this)
          refine ⟨_, _, _, _, rfl, rfl, SqL.of h2, ha, ?_⟩
          walk_at "s"
          · rename_i p hp
            exact q p _ _ _ _ (sm.trans (same_new hp)) (sm.free hp) upd_same
          · rename_i p hp
            exact q p _ _ _ _ (sm.trans (same_new hp)) (sm.free hp) upd_same
        · rename_i p hp
          exact q p _ _ _ _ (sm.trans (same_new hp)) (sm.free hp) upd_same
/-! ### the same, through and through -/
def spSame (n : Nat) : Sp := fun vs H Q _ => ∃ (x y : V) (d : PyData), vs = [x, y] ∧ Dt H x d ∧ Dt H y d ∧ dep d < n ∧ ∀ H', Same H H' → Q (.bl true) H'
theorem ok_same (T : Top w K mg) : ∀ n, FnOk P w K mg base CX0 (n + 1) T.a_law_same T.d_law_same ["answer", "due"] (spSame n) := by
  intro n
  induction n with
  | zero =>
    refine T.F_law_same.ok sc_law_same (fun vs H Q E h => ?_) (fun cdv A outer s H vs Q E hr h => ?_)
    · obtain ⟨x, y, d, rfl, _⟩ := h
      rfl
    · obtain ⟨x, y, d, rfl, hx, hy, hd, q⟩ := h
      omega
  | succ n ih =>
    refine T.F_law_same.ok sc_law_same (fun vs H Q E h => ?_) (fun cdv A outer s H vs Q E hr h => ?_)
    · obtain ⟨x, y, d, rfl, _⟩ := h
      rfl
    · obtain ⟨x, y, d, rfl, hx, hy, hd, q⟩ := h
      have G_law_same := ih
      refine ⟨_, (pss_cons (ps_if (pt_cmpR op_isN (pv 1) pe_non (nomark _))
    (pss_one (ps_ret (pe_cmpR op_isN (pv 0) pe_non (nomark _))))
    pss_nil)
    (pss_cons (ps_if (pt_val (pe_callB call_isi (by rfl) T.m_isinstance (by decide +kernel) (pa_cons (pv 1) (pa_cons (pe_bltn (v := .ty "bool") (u := .type "bool") (by rfl) T.m_bool (by decide +kernel) rfl) pa_nil))))
    (pss_one (ps_ret (pe_and (pe_callB call_isi (by rfl) T.m_isinstance (by decide +kernel) (pa_cons (pv 0) (pa_cons (pe_bltn (v := .ty "bool") (u := .type "bool") (by rfl) T.m_bool (by decide +kernel) rfl) pa_nil))) (pe_one (pe_cmpR op_eq (pv 0) (pv 1) (nomark _))))))
    pss_nil)
    (pss_cons (ps_if (pt_val (pe_callB call_isi (by rfl) T.m_isinstance (by decide +kernel) (pa_cons (pv 1) (pa_cons (pe_bltn (v := .ty "int") (u := .type "int") (by rfl) T.m_int (by decide +kernel) rfl) pa_nil))))
    (pss_one (ps_ret (pe_and (pe_callB call_isi (by rfl) T.m_isinstance (by decide +kernel) (pa_cons (pv 0) (pa_cons (pe_bltn (v := .ty "int") (u := .type "int") (by rfl) T.m_int (by decide +kernel) rfl) pa_nil))) (pe_and (pe_not (pe_callB call_isi (by rfl) T.m_isinstance (by decide +kernel) (pa_cons (pv 0) (pa_cons (pe_bltn (v := .ty "bool") (u := .type "bool") (by rfl) T.m_bool (by decide +kernel) rfl) pa_nil)))) (pe_one (pe_cmpR op_eq (pv 0) (pv 1) (nomark _)))))))
    pss_nil)
    (pss_cons (ps_if (pt_val (pe_callB call_isi (by rfl) T.m_isinstance (by decide +kernel) (pa_cons (pv 1) (pa_cons (pe_bltn (v := .ty "str") (u := .type "str") (by rfl) T.m_str (by decide +kernel) rfl) pa_nil))))
    (pss_one (ps_ret (pe_and (pe_callB call_isi (by rfl) T.m_isinstance (by decide +kernel) (pa_cons (pv 0) (pa_cons (pe_bltn (v := .ty "str") (u := .type "str") (by rfl) T.m_str (by decide +kernel) rfl) pa_nil))) (pe_one (pe_cmpR op_eq (pv 0) (pv 1) (nomark _))))))
    pss_nil)
    (pss_cons (ps_if (pt_val (pe_callB call_isi (by rfl) T.m_isinstance (by decide +kernel) (pa_cons (pv 1) (pa_cons (pe_bltn (v := .ty "dict") (u := .type "dict") (by rfl) T.m_dict (by decide +kernel) rfl) pa_nil)))) pss_never
    pss_nil)
    (pss_cons (ps_if (pt_val (pe_callB call_isi (by rfl) T.m_isinstance (by decide +kernel) (pa_cons (pv 1) (pa_cons (pe_bltn (v := .ty "tuple") (u := .type "tuple") (by rfl) T.m_tuple (by decide +kernel) rfl) pa_nil))))
    (pss_one (ps_if (pt_not (pt_val (pe_callB call_isi (by rfl) T.m_isinstance (by decide +kernel) (pa_cons (pv 0) (pa_cons (pe_bltn (v := .ty "tuple") (u := .type "tuple") (by rfl) T.m_tuple (by decide +kernel) rfl) pa_nil)))))
    (pss_one (ps_ret pe_bl))
    pss_nil))
    (pss_one (ps_if (pt_not (pt_val (pe_callB call_isi (by rfl) T.m_isinstance (by decide +kernel) (pa_cons (pv 0) (pa_cons (pe_bltn (v := .ty "list") (u := .type "list") (by rfl) T.m_list (by decide +kernel) rfl) pa_nil)))))
    (pss_one (ps_ret pe_bl))
    pss_nil)))
    (pss_cons (ps_if (pt_cmpR op_ne (pe_callB call_len_seq (by rfl) T.m_len (by decide +kernel) (pa_cons (pv 0) pa_nil)) (pe_callB call_len_seq (by rfl) T.m_len (by decide +kernel) (pa_cons (pv 1) pa_nil)) (nomark _))
    (pss_one (ps_ret pe_bl))
    pss_nil)
    (pss_cons (ps_for PassesOwn.never rfl (RZ.pi_zipA (by rfl) T.m_zip (pa_cons (pv 0) (pa_cons (pv 1) pa_nil))) (pg_tup rfl (pgs_cons (pg_name (i := 3) sc_law_same.nd rfl (.inl rfl)) (pgs_cons (pg_name (i := 4) sc_law_same.nd rfl (.inl rfl)) pgs_nil)))
    (pss_one (ps_if (pt_not (pt_val (pe_call G_law_same (hr.mono (by omega)) (by rfl) T.m_law_same T.F_law_same.kp T.b_law_same .nil pass0 (pa_cons (pv 3) (pa_cons (pv 4) pa_nil)))))
    (pss_one (ps_ret pe_bl))
    pss_nil)))
    (pss_one (ps_ret pe_bl)))))))))), ?_⟩
      cases d with
      | none =>
        unfold Dt at hx hy
        subst hx hy
        walk_at "s"
        show Q (.bl (decide (V.non = V.non))) H
        rw [decide_eq_true rfl]
        exact q _ (Same.refl H)
      | bool b =>
        unfold Dt at hx hy
        subst hx hy
        walk_at "s"
        show Q (.bl (decide (V.bl b = V.bl b))) H
        rw [decide_eq_true rfl]
        exact q _ (Same.refl H)
      | int b =>
        unfold Dt at hx hy
        subst hx hy
        walk_at "s"
        show Q (.bl (decide (V.int b = V.int b))) H
        rw [decide_eq_true rfl]
        exact q _ (Same.refl H)
      | str b =>
        unfold Dt at hx hy
        subst hx hy
        walk_at "s"
        show Q (.bl (decide (V.str b = V.str b))) H
        rw [decide_eq_true rfl]
        exact q _ (Same.refl H)
      | list ds =>
        unfold Dt at hx hy
        obtain ⟨a, xs, rfl, ha, hxs⟩ := hx
        obtain ⟨b, ys, rfl, hb, hys⟩ := hy
        have el : xs.length = ys.length := by rw [da_len hxs, da_len hys]
        have hd' : depAll ds + 1 < n + 1 := by
          unfold dep at hd
          exact hd
        walk_at "s"
        · rename_i e
          rw [el] at e
          exact absurd rfl e
        · refine ⟨a, b, xs, ys, rfl, .inl ⟨SqL.of ha, SqL.of hb, ?_⟩⟩
          refine RZ.for_zipL el (fun i σ H1 => ∃ v2 v3 v4, σ = [some (.ref a), some (.ref b), v2, v3, v4] ∧ Same H H1) ⟨_, _, _, rfl, Same.refl H⟩ ?_ ?_ ?_
          · intro i σ H1 hP
            obtain ⟨v2, v3, v4, rfl, sm⟩ := hP
            exact ⟨SqL.of (sm _ _ ha), SqL.of (sm _ _ hb)⟩
          · intro i x y t σ H1 hx hy hP ht
            obtain ⟨v2, v3, v4, rfl, sm⟩ := hP
            have hid : i < ds.length := by
              have := (List.getElem?_eq_some_iff.mp hx).1
              rw [da_len hxs] at this
              exact this
            have hdi : ds[i]? = some ds[i] := List.getElem?_eq_getElem hid
            obtain ⟨x', ex, hx'⟩ := da_get hxs hdi
            obtain ⟨y', ey, hy'⟩ := da_get hys hdi
            rw [hx] at ex
            rw [hy] at ey
            cases ex
            cases ey
            have sm2 := sm.trans (same_new (o := .tup [x, y]) ht)
            walk_at "s"
            refine ⟨x, y, ds[i], rfl, Dt.same sm2 _ _ hx', Dt.same sm2 _ _ hy', ?_, fun H2 s2 => ?_⟩
            · have := dep_get hdi
              omega
            · walk_at "s"
              exact ⟨_, _, _, rfl, sm2.trans s2⟩
          · intro σ H1 hP
            obtain ⟨v2, v3, v4, rfl, sm⟩ := hP
            walk_at "s"
            exact q _ sm
      | tuple ds =>
        unfold Dt at hx hy
        obtain ⟨a, xs, rfl, ha, hxs⟩ := hx
        obtain ⟨b, ys, rfl, hb, hys⟩ := hy
        have el : xs.length = ys.length := by rw [da_len hxs, da_len hys]
        have hd' : depAll ds + 1 < n + 1 := by
          unfold dep at hd
          exact hd
        walk_at "s"
        · rename_i e
          rw [el] at e
          exact absurd rfl e
        · refine ⟨a, b, xs, ys, rfl, .inr ⟨SqT.of ha, SqT.of hb, ?_⟩⟩
          refine RZ.for_zipT el (fun i σ H1 => ∃ v2 v3 v4, σ = [some (.ref a), some (.ref b), v2, v3, v4] ∧ Same H H1) ⟨_, _, _, rfl, Same.refl H⟩ ?_ ?_ ?_
          · intro i σ H1 hP
            obtain ⟨v2, v3, v4, rfl, sm⟩ := hP
            exact ⟨SqT.of (sm _ _ ha), SqT.of (sm _ _ hb)⟩
          · intro i x y t σ H1 hx hy hP ht
            obtain ⟨v2, v3, v4, rfl, sm⟩ := hP
            have hid : i < ds.length := by
              have := (List.getElem?_eq_some_iff.mp hx).1
              rw [da_len hxs] at this
              exact this
            have hdi : ds[i]? = some ds[i] := List.getElem?_eq_getElem hid
            obtain ⟨x', ex, hx'⟩ := da_get hxs hdi
            obtain ⟨y', ey, hy'⟩ := da_get hys hdi
            rw [hx] at ex
            rw [hy] at ey
            cases ex
            cases ey
            have sm2 := sm.trans (same_new (o := .tup [x, y]) ht)
            walk_at "s"
            refine ⟨x, y, ds[i], rfl, Dt.same sm2 _ _ hx', Dt.same sm2 _ _ hy', ?_, fun H2 s2 => ?_⟩
            · have := dep_get hdi
              omega
            · walk_at "s"
              exact ⟨_, _, _, rfl, sm2.trans s2⟩
          · intro σ H1 hP
            obtain ⟨v2, v3, v4, rfl, sm⟩ := hP
            walk_at "s"
            exact q _ sm
      | dict ds =>
        unfold Dt at hx
        exact hx.elim
end
end K17W
set_option Elab.async false
set_option linter.all false
set_option maxRecDepth 100000
/-! K17Plain: nets, what is made of kept nodes, the way around: no program in sight. -/
namespace NT
open PySem PySem.Spec PyProof.Rows L2 TL LW
structure Rw where
  sz : Int
  ops : List Int
  src : Bool
/-- what a node must be -/
def Ok (i : Nat) (r : Rw) : Prop := 1 ≤ r.sz ∧ (∀ o ∈ r.ops, 0 ≤ o ∧ o < (i : Int)) ∧ (r.src = true → r.ops = []) ∧ r.ops.length + 10 * r.sz.toNat ≤ 34
def WF (rs : List Rw) : Prop := ∀ i r, rs[i]? = some r → Ok i r
theorem WF.nil : WF [] := fun i r h => by simp at h
theorem WF.snoc {rs : List Rw} {r : Rw} (h : WF rs) (k : Ok rs.length r) : WF (rs ++ [r]) := fun i x e => by
  by_cases hi : i < rs.length
  · rw [List.getElem?_append_left hi] at e
    exact h i x e
  · have hl := (List.getElem?_eq_some_iff.mp e).1
    rw [List.length_append, List.length_singleton] at hl
    have : i = rs.length := by omega
    subst this
    simp at e
    subst e
    exact k
/-- one flag -/
def flag (f : List Bool) (o : Int) : Bool := f.getD o.toNat false
def mk1 (f : List Bool) (k : List Int) (i : Nat) (r : Rw) : Bool := decide ((i : Int) ∈ k) || (!r.src && r.ops.all (flag f))
/-- the flags of the first nodes -/
def fl (rs : List Rw) (k : List Int) : Nat → List Bool
  | 0 => []
  | n + 1 => fl rs k n ++ (match rs[n]? with | some r => [mk1 (fl rs k n) k n r] | none => [])
theorem fl_len {rs : List Rw} {k : List Int} : ∀ n, n ≤ rs.length → (fl rs k n).length = n
  | 0, _ => rfl
  | n + 1, h => by
    have e : rs[n]? = some rs[n] := List.getElem?_eq_getElem (by omega)
    unfold fl
    rw [e, List.length_append, fl_len n (by omega)]
    rfl
theorem fl_succ {rs : List Rw} {k : List Int} {n : Nat} {r : Rw} (e : rs[n]? = some r) : fl rs k (n + 1) = fl rs k n ++ [mk1 (fl rs k n) k n r] := by
  show fl rs k n ++ (match rs[n]? with | some r => [mk1 (fl rs k n) k n r] | none => []) = _
  rw [e]
theorem fl_pre {rs : List Rw} {k : List Int} : ∀ (m n i : Nat), m ≤ rs.length → n ≤ m → i < n → (fl rs k m)[i]? = (fl rs k n)[i]?
  | 0, n, i, _, h1, h2 => by omega
  | m + 1, n, i, h, h1, h2 => by
    by_cases hn : n = m + 1
    · subst hn; rfl
    · have e : rs[m]? = some rs[m] := List.getElem?_eq_getElem (by omega)
      rw [fl_succ e, List.getElem?_append_left (by rw [fl_len m (by omega)]; omega)]
      exact fl_pre m n i (by omega) (by omega) h2
/-- all flags -/
def flags (rs : List Rw) (k : List Int) : List Bool := fl rs k rs.length
theorem flags_len {rs : List Rw} {k : List Int} : (flags rs k).length = rs.length := fl_len _ (Nat.le_refl _)
theorem flag_pre {rs : List Rw} {k : List Int} {n : Nat} (hn : n ≤ rs.length) {o : Int} (h0 : 0 ≤ o) (h1 : o < (n : Int)) : flag (fl rs k n) o = flag (flags rs k) o := by
  unfold flag flags
  rw [List.getD_eq_getElem?_getD, List.getD_eq_getElem?_getD, fl_pre rs.length n o.toNat (Nat.le_refl _) hn (by omega)]
theorem flags_at {rs : List Rw} {k : List Int} (w : WF rs) {i : Nat} {r : Rw} (e : rs[i]? = some r) : flag (flags rs k) i = mk1 (flags rs k) k i r := by
  have hi : i < rs.length := (List.getElem?_eq_some_iff.mp e).1
  have h1 : flag (fl rs k (i + 1)) (i : Int) = flag (flags rs k) (i : Int) := flag_pre (by omega) (by omega) (by omega)
  rw [← h1, fl_succ e]
  unfold flag
  rw [List.getD_eq_getElem?_getD, show ((i : Int)).toNat = i from by omega, List.getElem?_append_right (by rw [fl_len i (by omega)]; omega), fl_len i (by omega), Nat.sub_self]
  show mk1 (fl rs k i) k i r = mk1 (flags rs k) k i r
  unfold mk1
  congr 2
  have : ∀ l : List Int, (∀ o ∈ l, 0 ≤ o ∧ o < (i : Int)) → l.all (flag (fl rs k i)) = l.all (flag (flags rs k)) := by
    intro l
    induction l with
    | nil => intro _; rfl
    | cons o l ih =>
      intro h
      rw [List.all_cons, List.all_cons, ih fun x hx => h x (List.mem_cons_of_mem _ hx), flag_pre (by omega) (h o List.mem_cons_self).1 (h o List.mem_cons_self).2]
  exact this _ (w i r e).2.1
theorem flags_get {rs : List Rw} {k : List Int} {i : Nat} (hi : i < rs.length) : (flags rs k)[i]? = some (flag (flags rs k) i) := by
  have hl : i < (flags rs k).length := by rw [flags_len]; exact hi
  unfold flag
  rw [List.getD_eq_getElem?_getD, show ((i : Int)).toNat = i from by omega, List.getElem?_eq_getElem hl]
  rfl
/-- the nodes that are made -/
def made (rs : List Rw) (k : List Int) : List Int := ((List.range rs.length).filter fun (i : Nat) => flag (flags rs k) (i : Int)).map fun (i : Nat) => (i : Int)
/-- the operands without a flag -/
def bare (f : List Bool) (l : List Int) : List Int := l.filter fun o => !flag f o
/-- the way down -/
inductive Way (rs : List Rw) (f : List Bool) : Nat → List Int → Prop
  | src {v : Nat} {r : Rw} : rs[v]? = some r → r.src = true → Way rs f v [(v : Int)]
  | step {v o : Nat} {r : Rw} {l : List Int} : rs[v]? = some r → r.src = false → (bare f r.ops)[0]? = some (o : Int) → Way rs f o l → Way rs f v ((v : Int) :: l)
theorem Way.one {rs : List Rw} {f : List Bool} : ∀ {v : Nat} {l : List Int}, Way rs f v l → ∀ {m : List Int}, Way rs f v m → l = m := by
  intro v l h
  induction h with
  | src e s =>
    intro m k
    cases k with
    | src => rfl
    | step e2 s2 _ _ =>
      rw [e] at e2
      cases e2
      rw [s] at s2
      cases s2
  | step e s b w ih =>
    intro m k
    cases k with
    | src e2 s2 =>
      rw [e] at e2
      cases e2
      rw [s] at s2
      cases s2
    | step e2 s2 b2 w2 =>
      rw [e] at e2
      cases e2
      rw [b] at b2
      have := Option.some.inj b2
      have := Int.ofNat.inj this
      subst this
      rw [ih w2]
/-- an operand without a flag, where there is none of the node itself -/
theorem bare_one {rs : List Rw} {k : List Int} (w : WF rs) {v : Nat} {r : Rw} (e : rs[v]? = some r) (s : r.src = false) (h : flag (flags rs k) v = false) :
    ∃ o : Nat, (bare (flags rs k) r.ops)[0]? = some (o : Int) ∧ o < v ∧ flag (flags rs k) o = false ∧ (o : Int) ∈ r.ops := by
  rw [flags_at w e] at h
  unfold mk1 at h
  rw [s] at h
  simp only [Bool.or_eq_false_iff, Bool.not_false, Bool.true_and] at h
  obtain ⟨_, h2⟩ := h
  have h3 : ∃ x ∈ r.ops, flag (flags rs k) x = false := by
    rw [List.all_eq_false] at h2
    obtain ⟨x, hx, hf⟩ := h2
    exact ⟨x, hx, by simpa using hf⟩
  obtain ⟨x, hx, hf⟩ := h3
  have hm : x ∈ bare (flags rs k) r.ops := List.mem_filter.mpr ⟨hx, by rw [hf]; rfl⟩
  cases hb : bare (flags rs k) r.ops with
  | nil =>
    rw [hb] at hm
    cases hm
  | cons o l =>
    have hmem : o ∈ bare (flags rs k) r.ops := by rw [hb]; exact List.mem_cons_self
    obtain ⟨h4, h5⟩ := List.mem_filter.mp hmem
    obtain ⟨h6, h7⟩ := (w v r e).2.1 o h4
    refine ⟨o.toNat, ?_, by omega, ?_, ?_⟩
    · show some o = _
      rw [Int.toNat_of_nonneg h6]
    · rw [Int.toNat_of_nonneg h6]
      simpa using h5
    · rw [Int.toNat_of_nonneg h6]
      exact h4
/-! ### rows in the heap; operands stand in tuples or in lists -/
def OpsT (H : Hp) (o : Addr) (l : List Int) : Prop := H o = some (.tup (l.map V.int))
def OpsL (H : Hp) (o : Addr) (l : List Int) : Prop := H o = some (.lst (l.map V.int))
def RowT (H : Hp) (v : V) (r : Rw) : Prop := ∃ t o, v = .ref t ∧ H t = some (.tup [.int r.sz, .ref o, .bl r.src]) ∧ OpsT H o r.ops
def RowL (H : Hp) (v : V) (r : Rw) : Prop := ∃ t o, v = .ref t ∧ H t = some (.tup [.int r.sz, .ref o, .bl r.src]) ∧ OpsL H o r.ops
/-- all of a list, one by one -/
inductive Each {α : Type} (P : V → α → Prop) : List V → List α → Prop
  | nil : Each P [] []
  | cons {v : V} {a : α} {vs : List V} {as : List α} : P v a → Each P vs as → Each P (v :: vs) (a :: as)
theorem Each.mono {α : Type} {P R : V → α → Prop} (h : ∀ v a, P v a → R v a) : ∀ {vs : List V} {as : List α}, Each P vs as → Each R vs as
  | _, _, .nil => .nil
  | _, _, .cons p r => .cons (h _ _ p) (r.mono h)
theorem Each.len {α : Type} {P : V → α → Prop} : ∀ {vs : List V} {as : List α}, Each P vs as → vs.length = as.length
  | _, _, .nil => rfl
  | _, _, .cons _ r => by rw [List.length_cons, List.length_cons, r.len]
theorem Each.get {α : Type} {P : V → α → Prop} : ∀ {vs : List V} {as : List α} {i : Nat} {a : α}, Each P vs as → as[i]? = some a → ∃ v, vs[i]? = some v ∧ P v a
  | _, _, _, _, .nil, e => by simp at e
  | _, _, 0, _, .cons p _, e => by
    simp at e
    subst e
    exact ⟨_, rfl, p⟩
  | _, _, i + 1, _, .cons _ r, e => by
    obtain ⟨v, e1, p⟩ := r.get (i := i) (by simpa using e)
    exact ⟨v, by simpa using e1, p⟩
theorem Each.got {α : Type} {P : V → α → Prop} {vs : List V} {as : List α} {i : Nat} {v : V} (h : Each P vs as) (e : vs[i]? = some v) : ∃ a, as[i]? = some a ∧ P v a := by
  have hi : i < as.length := by
    rw [← h.len]
    exact (List.getElem?_eq_some_iff.mp e).1
  obtain ⟨u, e1, p⟩ := h.get (List.getElem?_eq_getElem hi)
  rw [e] at e1
  cases e1
  exact ⟨_, List.getElem?_eq_getElem hi, p⟩
theorem Each.snoc {α : Type} {P : V → α → Prop} {v : V} {a : α} : ∀ {vs : List V} {as : List α}, Each P vs as → P v a → Each P (vs ++ [v]) (as ++ [a])
  | _, _, .nil, p => .cons p .nil
  | _, _, .cons q r, p => .cons q (r.snoc p)
theorem RowT.same {H H' : Hp} (e : Same H H') {v : V} {r : Rw} : RowT H v r → RowT H' v r := fun ⟨t, o, h1, h2, h3⟩ => ⟨t, o, h1, e _ _ h2, e _ _ h3⟩
theorem RowT.ts {H H' : Hp} (e : Ts H H') {v : V} {r : Rw} : RowT H v r → RowT H' v r := fun ⟨t, o, h1, h2, h3⟩ => ⟨t, o, h1, e _ _ h2, e _ _ h3⟩
theorem RowL.same {H H' : Hp} (e : Same H H') {v : V} {r : Rw} : RowL H v r → RowL H' v r := fun ⟨t, o, h1, h2, h3⟩ => ⟨t, o, h1, e _ _ h2, e _ _ h3⟩
def RowsT (H : Hp) (a : Addr) (rs : List Rw) : Prop := ∃ xs, H a = some (.lst xs) ∧ Each (RowT H) xs rs
def RowsL (H : Hp) (a : Addr) (rs : List Rw) : Prop := ∃ xs, H a = some (.lst xs) ∧ Each (RowL H) xs rs
theorem RowsT.same {H H' : Hp} (e : Same H H') {a : Addr} {rs : List Rw} : RowsT H a rs → RowsT H' a rs := fun ⟨xs, h1, h2⟩ => ⟨xs, e _ _ h1, h2.mono fun _ _ => RowT.same e⟩
theorem RowsL.same {H H' : Hp} (e : Same H H') {a : Addr} {rs : List Rw} : RowsL H a rs → RowsL H' a rs := fun ⟨xs, h1, h2⟩ => ⟨xs, e _ _ h1, h2.mono fun _ _ => RowL.same e⟩
/-- a list of numbers -/
abbrev Ints (H : Hp) (a : Addr) (l : List Int) : Prop := H a = some (.lst (l.map V.int))
theorem inV_int {x : Int} : ∀ {l : List Int}, inV (.int x) (l.map V.int) = decide (x ∈ l)
  | [] => rfl
  | y :: l => by
    have ih := inV_int (x := x) (l := l)
    show (eqV (.int y) (.int x) || inV (.int x) (l.map V.int)) = _
    rw [ih]
    by_cases e : x = y
    · subst e; simp [eqV]
    · have : ¬ y = x := fun z => e z.symm
      simp [eqV, e, this]
theorem flat_ints : ∀ {l : List Int}, (l.map V.int).all flatV = true
  | [] => rfl
  | _ :: l => by
    rw [List.map_cons, List.all_cons, flat_ints (l := l)]
    rfl
theorem at_flag {f : List Bool} {o : Int} (h0 : 0 ≤ o) (h1 : o < (f.length : Int)) : atI (f.map V.bl) o = some (.bl (flag f o)) := by
  obtain ⟨v, hv, e⟩ := atI_map (f := V.bl) h0 h1
  rw [e]
  unfold flag
  rw [List.getD_eq_getElem?_getD, hv]
  rfl
theorem putK_le {κ : Type} [DecidableEq κ] (c : List (κ × V)) (k : κ) (x : V) : (putK c k x).length ≤ c.length + 1 := by
  unfold putK
  split
  · rw [List.length_map]
    omega
  · rw [List.length_append]
    exact Nat.le_refl _
theorem has_put {kvs : List (Key × V)} {v x : Int} {l : List Int} {y : V} (h : (valV kvs (Sum.inl x : Key)).isSome = decide (x ∈ l)) : (valV (putK kvs (Sum.inl v) y) (Sum.inl x : Key)).isSome = decide (x ∈ l ++ [v]) := by
  rw [valV_put]
  by_cases e : x = v
  · subst e; simp
  · have : ¬ ((Sum.inl x : Key) = Sum.inl v) := fun z => e (Sum.inl.inj z)
    rw [if_neg this, h]
    simp [e]
theorem take_snoc {α : Type} {l : List α} {i : Nat} {v : α} (h : l[i]? = some v) : l.take (i + 1) = l.take i ++ [v] := by
  rw [List.take_add_one, h]
  rfl
theorem all_map {α : Type} {f : α → Bool} : ∀ {l : List α}, (l.map f).all id = l.all f
  | [] => rfl
  | x :: l => by
    rw [List.map_cons, List.all_cons, List.all_cons, all_map (l := l)]
    rfl
theorem bare_yes {f : List Bool} {l : List Int} {z : Int} (h : (!flag f z) = true) : bare f (l ++ [z]) = bare f l ++ [z] := by
  unfold bare
  rw [List.filter_append, List.filter_cons, if_pos h]
  rfl
theorem bare_no {f : List Bool} {l : List Int} {z : Int} (h : ¬ (!flag f z) = true) : bare f (l ++ [z]) = bare f l := by
  unfold bare
  rw [List.filter_append, List.filter_cons, if_neg h]
  exact List.append_nil _
theorem bare_len {f : List Bool} {l : List Int} : (bare f l).length ≤ l.length := List.length_filter_le _ _
theorem nums_snoc {l : List Int} {z : Int} : l.map V.int ++ [V.int z] = (l ++ [z]).map V.int := by
  rw [List.map_append]
  rfl
theorem pick_at {l : List Int} {k : Int} (h0 : 0 ≤ k) (h1 : k < (l.length : Int)) : ∃ v ∈ l, atI (l.map V.int) k = some (.int v) := by
  obtain ⟨v, hv, e⟩ := atI_map (f := V.int) h0 h1
  exact ⟨v, List.mem_of_getElem? hv, e⟩
theorem mem02 {v : Int} (h : v ∈ [0, 0, 0, 1, 2]) : 0 ≤ v ∧ v ≤ 2 := by
  simp at h
  omega
theorem mem12 {v : Int} (h : v ∈ [0, 1, 1, 1, 2]) : 0 ≤ v ∧ v ≤ 2 := by
  simp at h
  omega
theorem Ok.sz3 {i : Nat} {r : Rw} (h : Ok i r) : r.sz ≤ 3 := by
  have := h.1
  have := h.2.2.2
  omega
theorem sum_le {m : Int} : ∀ {l : List Int}, (∀ x ∈ l, 0 ≤ x ∧ x ≤ m) → 0 ≤ l.sum ∧ l.sum ≤ m * (l.length : Int)
  | [], _ => by simp
  | x :: l, h => by
    have h1 := h x List.mem_cons_self
    have h2 := sum_le (l := l) fun y hy => h y (List.mem_cons_of_mem _ hy)
    rw [List.sum_cons, List.length_cons, Int.natCast_add, Int.mul_add]
    omega
theorem ixN_flag {n : Nat} {z : Int} (h0 : 0 ≤ z) (h1 : z < (n : Int)) : ixN n z = some z.toNat := by
  obtain ⟨k, rfl⟩ : ∃ k : Nat, z = (k : Int) := ⟨z.toNat, by omega⟩
  exact Evl.ixN_nat (by omega)
end NT
set_option Elab.async false
set_option linter.all false
set_option maxRecDepth 100000
set_option maxHeartbeats 4000000
namespace K17W
open PySem PySem.Spec PyProof.Rows L2 TL LW NT
local macro_rules | `(tactic| walk_at "ne") => `(tactic| first
  | assumption
  | exact Ne.symm (by assumption)
  | exact ne_of_none (by assumption) (by assumption)
  | exact (ne_of_none (by assumption) (by assumption)).symm
  | (apply ne_of_none; (case h' => assumption); (case h => walk_at "hp"))
  | (apply Ne.symm; apply ne_of_none; (case h' => assumption); (case h => walk_at "hp")))
local macro_rules | `(tactic| walk_at "hp") => `(tactic| first
  | assumption
  | exact upd_same
  | exact hp_new (by assumption) (by assumption)
  | (apply hp_new; (case n => assumption); (case h => walk_at "hp"))
  | (refine (upd_ne ?ne).trans ?hp; (case ne => walk_at "ne"); (case hp => walk_at "hp")))
local macro_rules | `(tactic| walk_at "sq") => `(tactic| first
  | ((with_reducible show SqL _ _ _ _); assumption)
  | ((with_reducible show SqT _ _ _ _); assumption)
  | exact SqL.of (by assumption)
  | exact SqL.of upd_same
  | exact SqT.of (by assumption)
  | exact SqT.of upd_same
  | (apply SqL.of; walk_at "hp")
  | (apply SqT.of; walk_at "hp"))
local macro_rules | `(tactic| walk_at "len") => `(tactic| first
  | assumption
  | exact sz_small (by omega)
  | exact sz_less (by omega)
  | decide
  | (refine sz_small ?_; simp only [List.length_append, List.length_cons, List.length_nil, List.length_map, str_len]; omega)
  | (refine sz_less ?_; simp only [List.length_append, List.length_cons, List.length_nil, List.length_map, str_len]; omega))
local macro_rules | `(tactic| walk_at "cond") => `(tactic| first
  | omega
  | (split <;> omega)
  | assumption
  | exact .inl ⟨by omega, by omega⟩
  | exact .inr ⟨by omega, by omega⟩
  | exact ⟨by omega, by omega⟩
  | (show (0 : Int) < _; omega)
  | (show (0 : Int) < _; decide +kernel)
  | exact ⟨by omega, by omega, by decide⟩
  | walk_at "len"
  | rfl
  | (show CMulW _ _; unfold CMulW; decide +kernel)
  | exact ⟨_, rfl⟩
  | decide +kernel
  | exact ⟨_, by walk_at "sq"⟩
  | exact .inl ⟨rfl, _, by walk_at "sq"⟩)
local macro_rules | `(tactic| walk_at "at") => `(tactic| first
  | assumption
  | exact atI_nat (by assumption)
  | exact atI_last _ _
  | exact atI_nat (j := 0) rfl
  | exact atI_nat (j := 1) rfl
  | exact atI_nat (j := 2) rfl
  | exact atI_nat (j := 3) rfl
  | exact atI_nat (j := 4) rfl)
local macro_rules | `(tactic| walk_at "ix") => `(tactic| first
  | assumption
  | (with_reducible exact ixN_0 (by simp; done))
  | (with_reducible exact ixN_1 (by simp; done))
  | (with_reducible exact ixN_2 (by simp; done))
  | (with_reducible exact Evl.ixN_nat (by assumption))
  | (with_reducible exact Evl.ixN_nat (by omega)))
local macro_rules | `(tactic| walk_at "v") => `(tactic| first
  | exact val_var rfl
  | (with_reducible exact val_c)
  | (with_reducible apply val_orV; (case ha => walk_at "v"); (case hb => walk_at "v"))
  | (with_reducible apply val_andV; (case ha => walk_at "v"); (case hb => walk_at "v"))
  | (with_reducible apply val_notV; walk_at "v")
  | (with_reducible apply val_ifS; (case h => walk_at "w"); (case ha => walk_at "v"); (case hb => walk_at "v"))
  | (with_reducible apply val_ifI; (case h => walk_at "w"); (case ha => walk_at "v"); (case hb => walk_at "v"))
  | (with_reducible apply val_ifB; (case h => walk_at "w"); (case ha => walk_at "v"); (case hb => walk_at "v"))
  | (with_reducible apply val_eqS; (case ha => walk_at "v"); (case hb => walk_at "v"))
  | (with_reducible apply val_eqI; (case ha => walk_at "v"); (case hb => walk_at "v"))
  | (with_reducible apply val_neS; (case ha => walk_at "v"); (case hb => walk_at "v"))
  | (with_reducible apply val_neI; (case ha => walk_at "v"); (case hb => walk_at "v"))
  | (with_reducible apply val_op; (case ha => walk_at "v"); (case hb => walk_at "v"); (case hr => exact fun Q q => ⟨_, _, rfl, rfl, q⟩)))
local macro_rules | `(tactic| walk_at "w") => `(tactic| first
  | (with_reducible apply ans_or2; (case h1 => walk_at "w"); (case h2 => walk_at "w"))
  | (with_reducible apply ans_and2; (case h1 => walk_at "w"); (case h2 => walk_at "w"))
  | (with_reducible apply ans_not; walk_at "w")
  | (with_reducible apply ans_test; walk_at "v")
  | (with_reducible apply ans_val; walk_at "v"))
local macro_rules | `(tactic| walk_at "s1") => `(tactic| first
  | (with_reducible refine go_c ?_)
  | (with_reducible apply go_pick; (case hs => walk_at "hp"); (case h0 => walk_at "cond"); (case h1 => walk_at "cond"); (case' q => intro k a b c h0 h1))
  | (with_reducible refine go_nil ?_)
  | (with_reducible refine go_cons ?_)
  | (with_reducible refine go_call ?_)
  | (with_reducible refine go_cb ?_)
  | (with_reducible refine go_next ?_)
  | (with_reducible refine go_cont ?_)
  | (with_reducible refine go_ret ?_)
  | (with_reducible refine go_name ?_)
  | (with_reducible refine go_seq ?_)
  | (with_reducible refine go_asg ?_)
  | (with_reducible apply go_or; (case h => walk_at "v"))
  | (with_reducible apply go_and; (case h => walk_at "v"))
  | (with_reducible apply go_andL; (case h => walk_at "v"); (case' h1 => intro e); (case' h2 => intro e))
  | (with_reducible apply go_orL; (case h => walk_at "v"); (case' h1 => intro e); (case' h2 => intro e))
  | (with_reducible apply go_ifE; (case h => walk_at "v"))
  | (with_reducible apply go_ifOr; (case h => walk_at "w"); (case' h1 => intro e); (case' h2 => intro e))
  | (with_reducible apply go_ifAnd; (case h => walk_at "w"); (case' h1 => intro e); (case' h2 => intro e))
  | (with_reducible refine go_min ?_)
  | refine ⟨_, rfl, ?_⟩
  | refine ⟨_, _, rfl, rfl, ?_⟩
  | (refine And.intro ?cc ?_; (case cc => walk_at "cond"))
  | refine ⟨_, _, _, _, rfl, rfl, by walk_at "sq", by walk_at "at", ?_⟩
  | refine ⟨_, _, _, _, rfl, rfl, by walk_at "hp", by walk_at "ix", ?_⟩
  | refine ⟨_, _, _, _, rfl, rfl, by walk_at "hp", by walk_at "hp", by walk_at "len", ?_⟩
  | refine ⟨_, _, _, rfl, rfl, by walk_at "len", by walk_at "at", ?_⟩
  | refine ⟨_, _, _, rfl, rfl, by walk_at "hp", by walk_at "len", ?_⟩
  | refine ⟨_, _, _, rfl, rfl, by walk_at "hp", by walk_at "at", ?_⟩
  | refine ⟨_, _, rfl, rfl, by walk_at "sq", ?_⟩
  | refine ⟨_, _, rfl, rfl, by walk_at "len", ?_⟩
  | refine ⟨_, _, rfl, by walk_at "sq", ?_⟩
  | refine ⟨_, _, rfl, .inl (by walk_at "sq"), ?_⟩
  | refine ⟨_, _, rfl, .inr (by walk_at "sq"), ?_⟩
  | refine ⟨_, _, rfl, by walk_at "sq", rfl, ?_⟩
  | refine ⟨_, fun _ _ h => h, ?_⟩
  | refine ⟨_, _, rfl, ?_⟩
  | refine .inl ⟨_, rfl, ?_⟩
  | refine ⟨_, _, .type "int", .type _, true, rfl, ClsV.ty _, .base (.int _), kit_ty (by decide +kernel), ?_⟩
  | refine ⟨_, _, .type "int", .type _, false, rfl, ClsV.ty _, .base (.int _), kit_ty (by decide +kernel), ?_⟩
  | refine ⟨_, _, .type "bool", .type _, true, rfl, ClsV.ty _, .base (.bl _), kit_ty (by decide +kernel), ?_⟩
  | refine ⟨_, _, .type "bool", .type _, false, rfl, ClsV.ty _, .base (.bl _), kit_ty (by decide +kernel), ?_⟩
  | refine ⟨_, _, .type "str", .type _, true, rfl, ClsV.ty _, .base (.str _), kit_ty (by decide +kernel), ?_⟩
  | refine ⟨_, _, .type "str", .type _, false, rfl, ClsV.ty _, .base (.str _), kit_ty (by decide +kernel), ?_⟩
  | refine ⟨_, _, .type "NoneType", .type _, true, rfl, ClsV.ty _, .base (.non), kit_ty (by decide +kernel), ?_⟩
  | refine ⟨_, _, .type "NoneType", .type _, false, rfl, ClsV.ty _, .base (.non), kit_ty (by decide +kernel), ?_⟩
  | refine ⟨_, _, .type "list", .type _, true, rfl, ClsV.ty _, .base (.lst (by walk_at "hp")), kit_ty (by decide +kernel), ?_⟩
  | refine ⟨_, _, .type "list", .type _, false, rfl, ClsV.ty _, .base (.lst (by walk_at "hp")), kit_ty (by decide +kernel), ?_⟩
  | refine ⟨_, _, .type "tuple", .type _, true, rfl, ClsV.ty _, .base (.tup (by walk_at "hp")), kit_ty (by decide +kernel), ?_⟩
  | refine ⟨_, _, .type "tuple", .type _, false, rfl, ClsV.ty _, .base (.tup (by walk_at "hp")), kit_ty (by decide +kernel), ?_⟩
  | (refine fun (p : Addr) (hp : _ = none) => ?_)
  | refine iteT ?_
  | refine iteF ?_
  | refine iteD (fun _ => ?_) (fun e => absurd rfl e)
  | refine iteS (fun e => ?_) (fun e => ?_)
  | refine iteI (fun e => ?_) (fun e => ?_)
  | refine iteSn (fun e => ?_) (fun e => ?_)
  | refine iteIn (fun e => ?_) (fun e => ?_)
  | refine iteD (fun e => ?_) (fun e => ?_)
  | refine iteDn (fun e => ?_) (fun e => ?_)
  | refine ite2 (fun e => ?_) (fun e => ?_))
local macro_rules | `(tactic| walk_at "s") => `(tactic| repeat' (first
  | (with_reducible refine go_c ?_)
  | (with_reducible apply go_pick; (case hs => walk_at "hp"); (case h0 => walk_at "cond"); (case h1 => walk_at "cond"); (case' q => intro k a b c h0 h1))
  | (with_reducible refine go_nil ?_)
  | (with_reducible refine go_cons ?_)
  | (with_reducible refine go_call ?_)
  | (with_reducible refine go_cb ?_)
  | (with_reducible refine go_next ?_)
  | (with_reducible refine go_cont ?_)
  | (with_reducible refine go_ret ?_)
  | (with_reducible refine go_name ?_)
  | (with_reducible refine go_seq ?_)
  | (with_reducible refine go_asg ?_)
  | (with_reducible apply go_or; (case h => walk_at "v"))
  | (with_reducible apply go_and; (case h => walk_at "v"))
  | (with_reducible apply go_andL; (case h => walk_at "v"); (case' h1 => intro e); (case' h2 => intro e))
  | (with_reducible apply go_orL; (case h => walk_at "v"); (case' h1 => intro e); (case' h2 => intro e))
  | (with_reducible apply go_ifE; (case h => walk_at "v"))
  | (with_reducible apply go_ifOr; (case h => walk_at "w"); (case' h1 => intro e); (case' h2 => intro e))
  | (with_reducible apply go_ifAnd; (case h => walk_at "w"); (case' h1 => intro e); (case' h2 => intro e))
  | (with_reducible refine go_min ?_)
  | refine ⟨_, rfl, ?_⟩
  | refine ⟨_, _, rfl, rfl, ?_⟩
  | (refine And.intro ?cc ?_; (case cc => walk_at "cond"))
  | refine ⟨_, _, _, _, rfl, rfl, by walk_at "sq", by walk_at "at", ?_⟩
  | refine ⟨_, _, _, _, rfl, rfl, by walk_at "hp", by walk_at "ix", ?_⟩
  | refine ⟨_, _, _, _, rfl, rfl, by walk_at "hp", by walk_at "hp", by walk_at "len", ?_⟩
  | refine ⟨_, _, _, rfl, rfl, by walk_at "len", by walk_at "at", ?_⟩
  | refine ⟨_, _, _, rfl, rfl, by walk_at "hp", by walk_at "len", ?_⟩
  | refine ⟨_, _, _, rfl, rfl, by walk_at "hp", by walk_at "at", ?_⟩
  | refine ⟨_, _, rfl, rfl, by walk_at "sq", ?_⟩
  | refine ⟨_, _, rfl, rfl, by walk_at "len", ?_⟩
  | refine ⟨_, _, rfl, by walk_at "sq", ?_⟩
  | refine ⟨_, _, rfl, .inl (by walk_at "sq"), ?_⟩
  | refine ⟨_, _, rfl, .inr (by walk_at "sq"), ?_⟩
  | refine ⟨_, _, rfl, by walk_at "sq", rfl, ?_⟩
  | refine ⟨_, fun _ _ h => h, ?_⟩
  | refine ⟨_, _, rfl, ?_⟩
  | refine .inl ⟨_, rfl, ?_⟩
  | refine ⟨_, _, .type "int", .type _, true, rfl, ClsV.ty _, .base (.int _), kit_ty (by decide +kernel), ?_⟩
  | refine ⟨_, _, .type "int", .type _, false, rfl, ClsV.ty _, .base (.int _), kit_ty (by decide +kernel), ?_⟩
  | refine ⟨_, _, .type "bool", .type _, true, rfl, ClsV.ty _, .base (.bl _), kit_ty (by decide +kernel), ?_⟩
  | refine ⟨_, _, .type "bool", .type _, false, rfl, ClsV.ty _, .base (.bl _), kit_ty (by decide +kernel), ?_⟩
  | refine ⟨_, _, .type "str", .type _, true, rfl, ClsV.ty _, .base (.str _), kit_ty (by decide +kernel), ?_⟩
  | refine ⟨_, _, .type "str", .type _, false, rfl, ClsV.ty _, .base (.str _), kit_ty (by decide +kernel), ?_⟩
  | refine ⟨_, _, .type "NoneType", .type _, true, rfl, ClsV.ty _, .base (.non), kit_ty (by decide +kernel), ?_⟩
  | refine ⟨_, _, .type "NoneType", .type _, false, rfl, ClsV.ty _, .base (.non), kit_ty (by decide +kernel), ?_⟩
  | refine ⟨_, _, .type "list", .type _, true, rfl, ClsV.ty _, .base (.lst (by walk_at "hp")), kit_ty (by decide +kernel), ?_⟩
  | refine ⟨_, _, .type "list", .type _, false, rfl, ClsV.ty _, .base (.lst (by walk_at "hp")), kit_ty (by decide +kernel), ?_⟩
  | refine ⟨_, _, .type "tuple", .type _, true, rfl, ClsV.ty _, .base (.tup (by walk_at "hp")), kit_ty (by decide +kernel), ?_⟩
  | refine ⟨_, _, .type "tuple", .type _, false, rfl, ClsV.ty _, .base (.tup (by walk_at "hp")), kit_ty (by decide +kernel), ?_⟩
  | (refine fun (p : Addr) (hp : _ = none) => ?_)
  | refine iteT ?_
  | refine iteF ?_
  | refine iteD (fun _ => ?_) (fun e => absurd rfl e)
  | refine iteS (fun e => ?_) (fun e => ?_)
  | refine iteI (fun e => ?_) (fun e => ?_)
  | refine iteSn (fun e => ?_) (fun e => ?_)
  | refine iteIn (fun e => ?_) (fun e => ?_)
  | refine iteD (fun e => ?_) (fun e => ?_)
  | refine iteDn (fun e => ?_) (fun e => ?_)
  | refine ite2 (fun e => ?_) (fun e => ?_)))

section
variable {P : Program} {w : World} {K : PySem.W.Frag} {mg : Str → Option Value} {base : Heap}
/-! ### bound -/
def spBound : Sp := fun vs H Q _ => ∃ n : Int, vs = [.str "nodes", .int n] ∧ n ≤ 400 ∧ Q .non H
theorem ok_bound (T : Top w K mg) : FnOk P w K mg base CX0 1 T.a_bound T.d_bound ["what", "number"] spBound := by
  refine T.F_bound.ok sc_bound (fun vs H Q E h => ?_) (fun cdv A outer s H vs Q E hr h => ?_)
  · obtain ⟨n, rfl, _⟩ := h
    rfl
  · obtain ⟨n, rfl, hn, q⟩ := h
    refine ⟨_, (pss_one (ps_if (pt_cmpR op_gt (pv 1) (pe_ix ix_kdict (pe_glob (v := .ref T.a_LIMITS) rfl T.m_LIMITS rfl) (pv 0) (fun _ _ => rfl)) (nomark _)) pss_never
    pss_nil)), ?_⟩
    walk_at "s"
    refine ⟨_, _, _, rfl, rfl, T.k_LIMITS_nodes, ?_⟩
    walk_at "s"
    · omega
    · exact q
/-! ### made_flags -/
/-- a dict of the kept nodes -/
def Held (H : Hp) (D : Addr) (l : List Int) : Prop := ∃ kvs, H D = some (.dK kvs) ∧ kvs.length ≤ l.length ∧ ∀ x : Int, (valV kvs (Sum.inl x : Key)).isSome = decide (x ∈ l)
def spFlags (K : PySem.W.Frag) : Sp := fun vs H Q _ => ∃ (a k : Addr) (rs : List Rw) (ks : List Int), vs = [.ref a, .ref k] ∧ RowsL H a rs ∧ WF rs ∧ rs.length ≤ 20 ∧ ks.length ≤ 100 ∧ (Ints H k ks ∨ OpsT H k ks) ∧
  ∀ (l : Addr) (H' : Hp), Same H H' → H l = none → H' l = some (.lst ((flags rs ks).map V.bl)) → Q (.ref l) H'
theorem ok_flags (T : Top w K mg) : FnOk P w K mg base CX0 1 T.a_made_flags T.d_made_flags ["rows", "kept"] (spFlags K) := by
  refine T.F_made_flags.ok sc_made_flags (fun vs H Q E h => ?_) (fun cdv A outer s H vs Q E hr h => ?_)
  · obtain ⟨a, k, rs, ks, rfl, _⟩ := h
    rfl
  · obtain ⟨a, k, rs, ks, rfl, ⟨xs, hX, hE⟩, hW, hn, hkl, hk, q⟩ := h
    have hu := hu_of hr
    rcases hk with hk | hk
    · refine ⟨_, (pss_cons (ps_setDc (i := 3) (own := [("node", 2)]) rfl sc_made_flags.nd rfl rfl (sw_trueD rfl rfl rfl (by decide +kernel)) (pi_list (pv 1)) (blkOk_by (own := [("node", 2)]) (N := ["rows", "kept", "node", "held", "flags", "size", "operands", "source", "operand"]) (sc := defScope s_made_flags) (by decide +kernel)) (fun _ _ _ _ _ => (pg_name (i := 2) sc_made_flags.nd rfl (.inl rfl))) (fun _ _ _ _ _ => pts_nil) (fun _ _ _ _ _ => (pv 2)) (fun _ _ _ _ _ => pe_bl))
    (pss_cons (ps_set (i := 4) sc_made_flags.nd rfl (.inr rfl) (pe_lst pa_nil))
    (pss_cons (ps_for PassesOwn.never rfl (pi_range1 rfl T.m_range (pa_cons (pe_callB call_len_seq (by rfl) T.m_len (by decide +kernel) (pa_cons (pv 0) pa_nil)) pa_nil)) (pg_name (i := 2) sc_made_flags.nd rfl (.inl rfl))
    (pss_cons (ps_asg (pe_ix ix_list (pv 0) (pv 2) (fun _ _ => rfl)) (pg_tup rfl (pgs_cons (pg_name (i := 5) sc_made_flags.nd rfl (.inl rfl)) (pgs_cons (pg_name (i := 6) sc_made_flags.nd rfl (.inl rfl)) (pgs_cons (pg_name (i := 7) sc_made_flags.nd rfl (.inl rfl)) pgs_nil)))))
    (pss_one (ps_expr (pe_bm PySem.F.plainAttrs_list PySem.F.slot_list_append PySem.F.type_list_append mt_append (pv 4) (pa_cons (pe_or (pe_cmp (pc_din hu (pv 2) (pv 3))) (pe_one (pe_and (pe_not (pv 7)) (pe_one (pe_callB (cr_all rfl) (by rfl) T.m_all (by decide +kernel) (pa_cons (pe_lc (own := [("operand", 8)]) rfl sc_made_flags.nd (pi_list (pv 6)) (blkOk_by (own := [("operand", 8)]) (N := ["rows", "kept", "node", "held", "flags", "size", "operands", "source", "operand"]) (sc := defScope s_made_flags) (by decide +kernel)) (fun _ _ _ _ _ => (pg_name (i := 8) sc_made_flags.nd rfl (.inl rfl))) (fun _ _ _ _ _ => pts_nil) (fun _ _ _ _ _ => (pe_ix (ix_listB (K := K) rfl) (pv 4) (pv 8) (fun _ _ => rfl)))) pa_nil)))))) pa_nil))))))
    (pss_one (ps_ret (pv 4)))))), ?_⟩
      walk_at "s"
      rename_i D hD
      refine dc_list (xs := ks.map V.int) (fun i H1 => Same H H1 ∧ Held H1 D (ks.take i)) ?_ ?_ ?_ ?_
      · exact ⟨same_new hD, [], upd_same, Nat.le_refl _, fun x => by simp [valV_nil]⟩
      · intro i H1 hi hP
        first | exact SqL.of (hP.1 _ _ hk) | exact SqT.of (hP.1 _ _ hk)
      · intro i x H1 hi hP
        obtain ⟨sm, kvs, h1, h2, h3⟩ := hP
        obtain ⟨v, rfl, hv⟩ := map_get hi
        walk_at "s"
        have hl : i < ks.length := (List.getElem?_eq_some_iff.mp hv).1
        rw [List.length_take] at h2
        refine ⟨kvs, Sum.inl v, rfl, h1, sz_less (by omega), same_mut sm hD, _, upd_same, ?_, fun x => ?_⟩
        · refine Nat.le_trans (putK_le _ _ _) ?_
          rw [List.length_take]
          omega
        · rw [take_snoc hv]
          exact has_put (h3 x)
      · intro H1 hP
        obtain ⟨sm, hh⟩ := hP
        rw [List.length_map, List.take_length] at hh
        have hX1 := sm _ _ hX
        have hXl := hE.len
        obtain ⟨kvs, h1, h2, h3⟩ := hh
        walk_at "s"
        rename_i L hL
        have sm2 : Same H (upd H1 L (.lst [])) := sm.trans (same_new hL)
        have nL : H L = none := sm.free hL
        refine for_range (fun i σ H2 => ∃ v2 v5 v6 v7 v8, σ = [some (.ref a), some (.ref k), v2, some (.ref D), some (.ref L), v5, v6, v7, v8] ∧ Same H H2 ∧ H2 D = some (.dK kvs) ∧ H2 L = some (.lst ((fl rs ks i).map V.bl))) ?_ ?_ ?_
        · exact ⟨_, _, _, _, _, rfl, sm2, by walk_at "hp", upd_same⟩
        · intro i σ H2 hi hP
          obtain ⟨v2, v5, v6, v7, v8, rfl, sm3, d1, d2⟩ := hP
          have hi' : i < rs.length := by
            rw [← hE.len]
            omega
          have er : rs[i]? = some rs[i] := List.getElem?_eq_getElem hi'
          obtain ⟨u, eu, t, o, rfl, ht, ho⟩ := hE.get er
          have hX2 := sm3 _ _ hX
          have ht2 := sm3 _ _ ht
          have ho2 : OpsL H2 o rs[i].ops := sm3 _ _ ho
          simp only [Int.zero_add]
          walk_at "s"
          refine ⟨D, _, rfl, DGet.k (k := Sum.inl (i : Int)) d1, ?_⟩
          rw [h3]
          refine ⟨_, rfl, ?_⟩
          have nDL : D ≠ L := ne_of_none h1 hL
          have hlen : (fl rs ks i).length = i := fl_len i (by omega)
          by_cases e : (i : Int) ∈ ks
          · rw [decide_eq_true e]
            refine iteT ?_
            walk_at "s"
            refine ⟨_, _, _, _, _, rfl, same_mut sm3 nL, by walk_at "hp", ?_⟩
            rw [upd_same, fl_succ er, List.map_append]
            unfold mk1
            rw [decide_eq_true e]
            rfl
          · rw [decide_eq_false e]
            refine iteF ?_
            walk_at "s"
            · rename_i es
              refine ⟨_, _, _, _, _, rfl, same_mut sm3 nL, by walk_at "hp", ?_⟩
              rw [upd_same, fl_succ er, List.map_append]
              unfold mk1
              rw [decide_eq_false e, es]
              rfl
            · rename_i es B hB
              have nLB : L ≠ B := ne_of_none d2 hB
              have nDB : D ≠ B := ne_of_none d1 hB
              have nB : H B = none := sm3.free hB
              refine lc_list (xs := rs[i].ops.map V.int) (fun j H3 => Same H2 H3 ∧ H3 B = some (.lst (((rs[i].ops.take j).map (flag (fl rs ks i))).map V.bl))) ?_ ?_ ?_ ?_
              · exact ⟨same_new hB, upd_same⟩
              · intro j H3 hj hP
                exact SqL.of (hP.1 _ _ ho2)
              · intro j x H3 hj hP
                obtain ⟨sm4, b1⟩ := hP
                obtain ⟨v, rfl, hv⟩ := map_get hj
                obtain ⟨v0, v1⟩ := (hW i _ er).2.1 v (List.mem_of_getElem? hv)
                have hjl := (List.getElem?_eq_some_iff.mp hv).1
                have b2 := sm4 _ _ d2
                walk_at "s"
                refine ⟨_, _, _, _, rfl, rfl, SqL.of b2, at_flag v0 (by rw [hlen]; exact v1), ?_⟩
                have h4 := (hW i _ er).2.2.2
                refine ⟨_, b1, sz_less (by simp only [List.length_map, List.length_take]; omega), same_mut sm4 hB, ?_⟩
                rw [upd_same, take_snoc hv, List.map_append, List.map_append]
                rfl
              · intro H3 hP
                obtain ⟨sm4, b1⟩ := hP
                rw [List.length_map, List.take_length] at b1
                have b2 := sm4 _ _ d2
                have b3 := sm4 _ _ d1
                walk_at "s"
                refine ⟨_, _, _, _, _, rfl, same_mut (sm3.trans sm4) nL, by walk_at "hp", ?_⟩
                rw [upd_same, fl_succ er, List.map_append, all_map]
                unfold mk1
                rw [decide_eq_false e, es]
                rfl
        · intro σ H2 hP
          obtain ⟨v2, v5, v6, v7, v8, rfl, sm3, d1, d2⟩ := hP
          walk_at "s"
          rw [show ((xs.length : Int)).toNat = rs.length from by omega] at d2
          exact q L H2 sm3 nL d2
    · refine ⟨_, (pss_cons (ps_setDc (i := 3) (own := [("node", 2)]) rfl sc_made_flags.nd rfl rfl (sw_trueD rfl rfl rfl (by decide +kernel)) (pi_tup (pv 1)) (blkOk_by (own := [("node", 2)]) (N := ["rows", "kept", "node", "held", "flags", "size", "operands", "source", "operand"]) (sc := defScope s_made_flags) (by decide +kernel)) (fun _ _ _ _ _ => (pg_name (i := 2) sc_made_flags.nd rfl (.inl rfl))) (fun _ _ _ _ _ => pts_nil) (fun _ _ _ _ _ => (pv 2)) (fun _ _ _ _ _ => pe_bl))
    (pss_cons (ps_set (i := 4) sc_made_flags.nd rfl (.inr rfl) (pe_lst pa_nil))
    (pss_cons (ps_for PassesOwn.never rfl (pi_range1 rfl T.m_range (pa_cons (pe_callB call_len_seq (by rfl) T.m_len (by decide +kernel) (pa_cons (pv 0) pa_nil)) pa_nil)) (pg_name (i := 2) sc_made_flags.nd rfl (.inl rfl))
    (pss_cons (ps_asg (pe_ix ix_list (pv 0) (pv 2) (fun _ _ => rfl)) (pg_tup rfl (pgs_cons (pg_name (i := 5) sc_made_flags.nd rfl (.inl rfl)) (pgs_cons (pg_name (i := 6) sc_made_flags.nd rfl (.inl rfl)) (pgs_cons (pg_name (i := 7) sc_made_flags.nd rfl (.inl rfl)) pgs_nil)))))
    (pss_one (ps_expr (pe_bm PySem.F.plainAttrs_list PySem.F.slot_list_append PySem.F.type_list_append mt_append (pv 4) (pa_cons (pe_or (pe_cmp (pc_din hu (pv 2) (pv 3))) (pe_one (pe_and (pe_not (pv 7)) (pe_one (pe_callB (cr_all rfl) (by rfl) T.m_all (by decide +kernel) (pa_cons (pe_lc (own := [("operand", 8)]) rfl sc_made_flags.nd (pi_list (pv 6)) (blkOk_by (own := [("operand", 8)]) (N := ["rows", "kept", "node", "held", "flags", "size", "operands", "source", "operand"]) (sc := defScope s_made_flags) (by decide +kernel)) (fun _ _ _ _ _ => (pg_name (i := 8) sc_made_flags.nd rfl (.inl rfl))) (fun _ _ _ _ _ => pts_nil) (fun _ _ _ _ _ => (pe_ix (ix_listB (K := K) rfl) (pv 4) (pv 8) (fun _ _ => rfl)))) pa_nil)))))) pa_nil))))))
    (pss_one (ps_ret (pv 4)))))), ?_⟩
      walk_at "s"
      rename_i D hD
      refine dc_tup (xs := ks.map V.int) (fun i H1 => Same H H1 ∧ Held H1 D (ks.take i)) ?_ ?_ ?_ ?_
      · exact ⟨same_new hD, [], upd_same, Nat.le_refl _, fun x => by simp [valV_nil]⟩
      · intro i H1 hi hP
        first | exact SqL.of (hP.1 _ _ hk) | exact SqT.of (hP.1 _ _ hk)
      · intro i x H1 hi hP
        obtain ⟨sm, kvs, h1, h2, h3⟩ := hP
        obtain ⟨v, rfl, hv⟩ := map_get hi
        walk_at "s"
        have hl : i < ks.length := (List.getElem?_eq_some_iff.mp hv).1
        rw [List.length_take] at h2
        refine ⟨kvs, Sum.inl v, rfl, h1, sz_less (by omega), same_mut sm hD, _, upd_same, ?_, fun x => ?_⟩
        · refine Nat.le_trans (putK_le _ _ _) ?_
          rw [List.length_take]
          omega
        · rw [take_snoc hv]
          exact has_put (h3 x)
      · intro H1 hP
        obtain ⟨sm, hh⟩ := hP
        rw [List.length_map, List.take_length] at hh
        have hX1 := sm _ _ hX
        have hXl := hE.len
        obtain ⟨kvs, h1, h2, h3⟩ := hh
        walk_at "s"
        rename_i L hL
        have sm2 : Same H (upd H1 L (.lst [])) := sm.trans (same_new hL)
        have nL : H L = none := sm.free hL
        refine for_range (fun i σ H2 => ∃ v2 v5 v6 v7 v8, σ = [some (.ref a), some (.ref k), v2, some (.ref D), some (.ref L), v5, v6, v7, v8] ∧ Same H H2 ∧ H2 D = some (.dK kvs) ∧ H2 L = some (.lst ((fl rs ks i).map V.bl))) ?_ ?_ ?_
        · exact ⟨_, _, _, _, _, rfl, sm2, by walk_at "hp", upd_same⟩
        · intro i σ H2 hi hP
          obtain ⟨v2, v5, v6, v7, v8, rfl, sm3, d1, d2⟩ := hP
          have hi' : i < rs.length := by
            rw [← hE.len]
            omega
          have er : rs[i]? = some rs[i] := List.getElem?_eq_getElem hi'
          obtain ⟨u, eu, t, o, rfl, ht, ho⟩ := hE.get er
          have hX2 := sm3 _ _ hX
          have ht2 := sm3 _ _ ht
          have ho2 : OpsL H2 o rs[i].ops := sm3 _ _ ho
          simp only [Int.zero_add]
          walk_at "s"
          refine ⟨D, _, rfl, DGet.k (k := Sum.inl (i : Int)) d1, ?_⟩
          rw [h3]
          refine ⟨_, rfl, ?_⟩
          have nDL : D ≠ L := ne_of_none h1 hL
          have hlen : (fl rs ks i).length = i := fl_len i (by omega)
          by_cases e : (i : Int) ∈ ks
          · rw [decide_eq_true e]
            refine iteT ?_
            walk_at "s"
            refine ⟨_, _, _, _, _, rfl, same_mut sm3 nL, by walk_at "hp", ?_⟩
            rw [upd_same, fl_succ er, List.map_append]
            unfold mk1
            rw [decide_eq_true e]
            rfl
          · rw [decide_eq_false e]
            refine iteF ?_
            walk_at "s"
            · rename_i es
              refine ⟨_, _, _, _, _, rfl, same_mut sm3 nL, by walk_at "hp", ?_⟩
              rw [upd_same, fl_succ er, List.map_append]
              unfold mk1
              rw [decide_eq_false e, es]
              rfl
            · rename_i es B hB
              have nLB : L ≠ B := ne_of_none d2 hB
              have nDB : D ≠ B := ne_of_none d1 hB
              have nB : H B = none := sm3.free hB
              refine lc_list (xs := rs[i].ops.map V.int) (fun j H3 => Same H2 H3 ∧ H3 B = some (.lst (((rs[i].ops.take j).map (flag (fl rs ks i))).map V.bl))) ?_ ?_ ?_ ?_
              · exact ⟨same_new hB, upd_same⟩
              · intro j H3 hj hP
                exact SqL.of (hP.1 _ _ ho2)
              · intro j x H3 hj hP
                obtain ⟨sm4, b1⟩ := hP
                obtain ⟨v, rfl, hv⟩ := map_get hj
                obtain ⟨v0, v1⟩ := (hW i _ er).2.1 v (List.mem_of_getElem? hv)
                have hjl := (List.getElem?_eq_some_iff.mp hv).1
                have b2 := sm4 _ _ d2
                walk_at "s"
                refine ⟨_, _, _, _, rfl, rfl, SqL.of b2, at_flag v0 (by rw [hlen]; exact v1), ?_⟩
                have h4 := (hW i _ er).2.2.2
                refine ⟨_, b1, sz_less (by simp only [List.length_map, List.length_take]; omega), same_mut sm4 hB, ?_⟩
                rw [upd_same, take_snoc hv, List.map_append, List.map_append]
                rfl
              · intro H3 hP
                obtain ⟨sm4, b1⟩ := hP
                rw [List.length_map, List.take_length] at b1
                have b2 := sm4 _ _ d2
                have b3 := sm4 _ _ d1
                walk_at "s"
                refine ⟨_, _, _, _, _, rfl, same_mut (sm3.trans sm4) nL, by walk_at "hp", ?_⟩
                rw [upd_same, fl_succ er, List.map_append, all_map]
                unfold mk1
                rw [decide_eq_false e, es]
                rfl
        · intro σ H2 hP
          obtain ⟨v2, v5, v6, v7, v8, rfl, sm3, d1, d2⟩ := hP
          walk_at "s"
          rw [show ((xs.length : Int)).toNat = rs.length from by omega] at d2
          exact q L H2 sm3 nL d2
end
end K17W
set_option Elab.async false
set_option linter.all false
set_option maxRecDepth 100000
set_option maxHeartbeats 4000000
namespace K17W
open PySem PySem.Spec PyProof.Rows L2 TL LW NT
local macro_rules | `(tactic| walk_at "ne") => `(tactic| first
  | assumption
  | exact Ne.symm (by assumption)
  | exact ne_of_none (by assumption) (by assumption)
  | exact (ne_of_none (by assumption) (by assumption)).symm
  | (apply ne_of_none; (case h' => assumption); (case h => walk_at "hp"))
  | (apply Ne.symm; apply ne_of_none; (case h' => assumption); (case h => walk_at "hp")))
local macro_rules | `(tactic| walk_at "hp") => `(tactic| first
  | assumption
  | exact upd_same
  | exact hp_new (by assumption) (by assumption)
  | (apply hp_new; (case n => assumption); (case h => walk_at "hp"))
  | (refine (upd_ne ?ne).trans ?hp; (case ne => walk_at "ne"); (case hp => walk_at "hp")))
local macro_rules | `(tactic| walk_at "sq") => `(tactic| first
  | ((with_reducible show SqL _ _ _ _); assumption)
  | ((with_reducible show SqT _ _ _ _); assumption)
  | exact SqL.of (by assumption)
  | exact SqL.of upd_same
  | exact SqT.of (by assumption)
  | exact SqT.of upd_same
  | (apply SqL.of; walk_at "hp")
  | (apply SqT.of; walk_at "hp"))
local macro_rules | `(tactic| walk_at "len") => `(tactic| first
  | assumption
  | exact sz_small (by omega)
  | exact sz_less (by omega)
  | decide
  | (refine sz_small ?_; simp only [List.length_append, List.length_cons, List.length_nil, List.length_map, str_len]; omega)
  | (refine sz_less ?_; simp only [List.length_append, List.length_cons, List.length_nil, List.length_map, str_len]; omega))
local macro_rules | `(tactic| walk_at "cond") => `(tactic| first
  | omega
  | (split <;> omega)
  | assumption
  | exact .inl ⟨by omega, by omega⟩
  | exact .inr ⟨by omega, by omega⟩
  | exact ⟨by omega, by omega⟩
  | (show (0 : Int) < _; omega)
  | (show (0 : Int) < _; decide +kernel)
  | exact ⟨by omega, by omega, by decide⟩
  | walk_at "len"
  | rfl
  | (show CMulW _ _; unfold CMulW; decide +kernel)
  | exact ⟨_, rfl⟩
  | decide +kernel
  | exact ⟨_, by walk_at "sq"⟩
  | exact .inl ⟨rfl, _, by walk_at "sq"⟩)
local macro_rules | `(tactic| walk_at "at") => `(tactic| first
  | assumption
  | exact atI_nat (by assumption)
  | exact atI_last _ _
  | exact atI_nat (j := 0) rfl
  | exact atI_nat (j := 1) rfl
  | exact atI_nat (j := 2) rfl
  | exact atI_nat (j := 3) rfl
  | exact atI_nat (j := 4) rfl)
local macro_rules | `(tactic| walk_at "ix") => `(tactic| first
  | assumption
  | (with_reducible exact ixN_0 (by simp; done))
  | (with_reducible exact ixN_1 (by simp; done))
  | (with_reducible exact ixN_2 (by simp; done))
  | (with_reducible exact Evl.ixN_nat (by assumption))
  | (with_reducible exact Evl.ixN_nat (by omega)))
local macro_rules | `(tactic| walk_at "v") => `(tactic| first
  | exact val_var rfl
  | (with_reducible exact val_c)
  | (with_reducible apply val_orV; (case ha => walk_at "v"); (case hb => walk_at "v"))
  | (with_reducible apply val_andV; (case ha => walk_at "v"); (case hb => walk_at "v"))
  | (with_reducible apply val_notV; walk_at "v")
  | (with_reducible apply val_ifS; (case h => walk_at "w"); (case ha => walk_at "v"); (case hb => walk_at "v"))
  | (with_reducible apply val_ifI; (case h => walk_at "w"); (case ha => walk_at "v"); (case hb => walk_at "v"))
  | (with_reducible apply val_ifB; (case h => walk_at "w"); (case ha => walk_at "v"); (case hb => walk_at "v"))
  | (with_reducible apply val_eqS; (case ha => walk_at "v"); (case hb => walk_at "v"))
  | (with_reducible apply val_eqI; (case ha => walk_at "v"); (case hb => walk_at "v"))
  | (with_reducible apply val_neS; (case ha => walk_at "v"); (case hb => walk_at "v"))
  | (with_reducible apply val_neI; (case ha => walk_at "v"); (case hb => walk_at "v"))
  | (with_reducible apply val_op; (case ha => walk_at "v"); (case hb => walk_at "v"); (case hr => exact fun Q q => ⟨_, _, rfl, rfl, q⟩)))
local macro_rules | `(tactic| walk_at "w") => `(tactic| first
  | (with_reducible apply ans_or2; (case h1 => walk_at "w"); (case h2 => walk_at "w"))
  | (with_reducible apply ans_and2; (case h1 => walk_at "w"); (case h2 => walk_at "w"))
  | (with_reducible apply ans_not; walk_at "w")
  | (with_reducible apply ans_test; walk_at "v")
  | (with_reducible apply ans_val; walk_at "v"))
local macro_rules | `(tactic| walk_at "s1") => `(tactic| first
  | (with_reducible refine go_c ?_)
  | (with_reducible apply go_pick; (case hs => walk_at "hp"); (case h0 => walk_at "cond"); (case h1 => walk_at "cond"); (case' q => intro k a b c h0 h1))
  | (with_reducible refine go_nil ?_)
  | (with_reducible refine go_cons ?_)
  | (with_reducible refine go_call ?_)
  | (with_reducible refine go_cb ?_)
  | (with_reducible refine go_next ?_)
  | (with_reducible refine go_cont ?_)
  | (with_reducible refine go_ret ?_)
  | (with_reducible refine go_name ?_)
  | (with_reducible refine go_seq ?_)
  | (with_reducible refine go_asg ?_)
  | (with_reducible apply go_or; (case h => walk_at "v"))
  | (with_reducible apply go_and; (case h => walk_at "v"))
  | (with_reducible apply go_andL; (case h => walk_at "v"); (case' h1 => intro e); (case' h2 => intro e))
  | (with_reducible apply go_orL; (case h => walk_at "v"); (case' h1 => intro e); (case' h2 => intro e))
  | (with_reducible apply go_ifE; (case h => walk_at "v"))
  | (with_reducible apply go_ifOr; (case h => walk_at "w"); (case' h1 => intro e); (case' h2 => intro e))
  | (with_reducible apply go_ifAnd; (case h => walk_at "w"); (case' h1 => intro e); (case' h2 => intro e))
  | (with_reducible refine go_min ?_)
  | refine ⟨_, rfl, ?_⟩
  | refine ⟨_, _, rfl, rfl, ?_⟩
  | (refine And.intro ?cc ?_; (case cc => walk_at "cond"))
  | refine ⟨_, _, _, _, rfl, rfl, by walk_at "sq", by walk_at "at", ?_⟩
  | refine ⟨_, _, _, _, rfl, rfl, by walk_at "hp", by walk_at "ix", ?_⟩
  | refine ⟨_, _, _, _, rfl, rfl, by walk_at "hp", by walk_at "hp", by walk_at "len", ?_⟩
  | refine ⟨_, _, _, rfl, rfl, by walk_at "len", by walk_at "at", ?_⟩
  | refine ⟨_, _, _, rfl, rfl, by walk_at "hp", by walk_at "len", ?_⟩
  | refine ⟨_, _, _, rfl, rfl, by walk_at "hp", by walk_at "at", ?_⟩
  | refine ⟨_, _, rfl, rfl, by walk_at "sq", ?_⟩
  | refine ⟨_, _, rfl, rfl, by walk_at "len", ?_⟩
  | refine ⟨_, _, rfl, by walk_at "sq", ?_⟩
  | refine ⟨_, _, rfl, .inl (by walk_at "sq"), ?_⟩
  | refine ⟨_, _, rfl, .inr (by walk_at "sq"), ?_⟩
  | refine ⟨_, _, rfl, by walk_at "sq", rfl, ?_⟩
  | refine ⟨_, fun _ _ h => h, ?_⟩
  | refine ⟨_, _, rfl, ?_⟩
  | refine .inl ⟨_, rfl, ?_⟩
  | refine ⟨_, _, .type "int", .type _, true, rfl, ClsV.ty _, .base (.int _), kit_ty (by decide +kernel), ?_⟩
  | refine ⟨_, _, .type "int", .type _, false, rfl, ClsV.ty _, .base (.int _), kit_ty (by decide +kernel), ?_⟩
  | refine ⟨_, _, .type "bool", .type _, true, rfl, ClsV.ty _, .base (.bl _), kit_ty (by decide +kernel), ?_⟩
  | refine ⟨_, _, .type "bool", .type _, false, rfl, ClsV.ty _, .base (.bl _), kit_ty (by decide +kernel), ?_⟩
  | refine ⟨_, _, .type "str", .type _, true, rfl, ClsV.ty _, .base (.str _), kit_ty (by decide +kernel), ?_⟩
  | refine ⟨_, _, .type "str", .type _, false, rfl, ClsV.ty _, .base (.str _), kit_ty (by decide +kernel), ?_⟩
  | refine ⟨_, _, .type "NoneType", .type _, true, rfl, ClsV.ty _, .base (.non), kit_ty (by decide +kernel), ?_⟩
  | refine ⟨_, _, .type "NoneType", .type _, false, rfl, ClsV.ty _, .base (.non), kit_ty (by decide +kernel), ?_⟩
  | refine ⟨_, _, .type "list", .type _, true, rfl, ClsV.ty _, .base (.lst (by walk_at "hp")), kit_ty (by decide +kernel), ?_⟩
  | refine ⟨_, _, .type "list", .type _, false, rfl, ClsV.ty _, .base (.lst (by walk_at "hp")), kit_ty (by decide +kernel), ?_⟩
  | refine ⟨_, _, .type "tuple", .type _, true, rfl, ClsV.ty _, .base (.tup (by walk_at "hp")), kit_ty (by decide +kernel), ?_⟩
  | refine ⟨_, _, .type "tuple", .type _, false, rfl, ClsV.ty _, .base (.tup (by walk_at "hp")), kit_ty (by decide +kernel), ?_⟩
  | (refine fun (p : Addr) (hp : _ = none) => ?_)
  | refine iteT ?_
  | refine iteF ?_
  | refine iteD (fun _ => ?_) (fun e => absurd rfl e)
  | refine iteS (fun e => ?_) (fun e => ?_)
  | refine iteI (fun e => ?_) (fun e => ?_)
  | refine iteSn (fun e => ?_) (fun e => ?_)
  | refine iteIn (fun e => ?_) (fun e => ?_)
  | refine iteD (fun e => ?_) (fun e => ?_)
  | refine iteDn (fun e => ?_) (fun e => ?_)
  | refine ite2 (fun e => ?_) (fun e => ?_))
local macro_rules | `(tactic| walk_at "s") => `(tactic| repeat' (first
  | (with_reducible refine go_c ?_)
  | (with_reducible apply go_pick; (case hs => walk_at "hp"); (case h0 => walk_at "cond"); (case h1 => walk_at "cond"); (case' q => intro k a b c h0 h1))
  | (with_reducible refine go_nil ?_)
  | (with_reducible refine go_cons ?_)
  | (with_reducible refine go_call ?_)
  | (with_reducible refine go_cb ?_)
  | (with_reducible refine go_next ?_)
  | (with_reducible refine go_cont ?_)
  | (with_reducible refine go_ret ?_)
  | (with_reducible refine go_name ?_)
  | (with_reducible refine go_seq ?_)
  | (with_reducible refine go_asg ?_)
  | (with_reducible apply go_or; (case h => walk_at "v"))
  | (with_reducible apply go_and; (case h => walk_at "v"))
  | (with_reducible apply go_andL; (case h => walk_at "v"); (case' h1 => intro e); (case' h2 => intro e))
  | (with_reducible apply go_orL; (case h => walk_at "v"); (case' h1 => intro e); (case' h2 => intro e))
  | (with_reducible apply go_ifE; (case h => walk_at "v"))
  | (with_reducible apply go_ifOr; (case h => walk_at "w"); (case' h1 => intro e); (case' h2 => intro e))
  | (with_reducible apply go_ifAnd; (case h => walk_at "w"); (case' h1 => intro e); (case' h2 => intro e))
  | (with_reducible refine go_min ?_)
  | refine ⟨_, rfl, ?_⟩
  | refine ⟨_, _, rfl, rfl, ?_⟩
  | (refine And.intro ?cc ?_; (case cc => walk_at "cond"))
  | refine ⟨_, _, _, _, rfl, rfl, by walk_at "sq", by walk_at "at", ?_⟩
  | refine ⟨_, _, _, _, rfl, rfl, by walk_at "hp", by walk_at "ix", ?_⟩
  | refine ⟨_, _, _, _, rfl, rfl, by walk_at "hp", by walk_at "hp", by walk_at "len", ?_⟩
  | refine ⟨_, _, _, rfl, rfl, by walk_at "len", by walk_at "at", ?_⟩
  | refine ⟨_, _, _, rfl, rfl, by walk_at "hp", by walk_at "len", ?_⟩
  | refine ⟨_, _, _, rfl, rfl, by walk_at "hp", by walk_at "at", ?_⟩
  | refine ⟨_, _, rfl, rfl, by walk_at "sq", ?_⟩
  | refine ⟨_, _, rfl, rfl, by walk_at "len", ?_⟩
  | refine ⟨_, _, rfl, by walk_at "sq", ?_⟩
  | refine ⟨_, _, rfl, .inl (by walk_at "sq"), ?_⟩
  | refine ⟨_, _, rfl, .inr (by walk_at "sq"), ?_⟩
  | refine ⟨_, _, rfl, by walk_at "sq", rfl, ?_⟩
  | refine ⟨_, fun _ _ h => h, ?_⟩
  | refine ⟨_, _, rfl, ?_⟩
  | refine .inl ⟨_, rfl, ?_⟩
  | refine ⟨_, _, .type "int", .type _, true, rfl, ClsV.ty _, .base (.int _), kit_ty (by decide +kernel), ?_⟩
  | refine ⟨_, _, .type "int", .type _, false, rfl, ClsV.ty _, .base (.int _), kit_ty (by decide +kernel), ?_⟩
  | refine ⟨_, _, .type "bool", .type _, true, rfl, ClsV.ty _, .base (.bl _), kit_ty (by decide +kernel), ?_⟩
  | refine ⟨_, _, .type "bool", .type _, false, rfl, ClsV.ty _, .base (.bl _), kit_ty (by decide +kernel), ?_⟩
  | refine ⟨_, _, .type "str", .type _, true, rfl, ClsV.ty _, .base (.str _), kit_ty (by decide +kernel), ?_⟩
  | refine ⟨_, _, .type "str", .type _, false, rfl, ClsV.ty _, .base (.str _), kit_ty (by decide +kernel), ?_⟩
  | refine ⟨_, _, .type "NoneType", .type _, true, rfl, ClsV.ty _, .base (.non), kit_ty (by decide +kernel), ?_⟩
  | refine ⟨_, _, .type "NoneType", .type _, false, rfl, ClsV.ty _, .base (.non), kit_ty (by decide +kernel), ?_⟩
  | refine ⟨_, _, .type "list", .type _, true, rfl, ClsV.ty _, .base (.lst (by walk_at "hp")), kit_ty (by decide +kernel), ?_⟩
  | refine ⟨_, _, .type "list", .type _, false, rfl, ClsV.ty _, .base (.lst (by walk_at "hp")), kit_ty (by decide +kernel), ?_⟩
  | refine ⟨_, _, .type "tuple", .type _, true, rfl, ClsV.ty _, .base (.tup (by walk_at "hp")), kit_ty (by decide +kernel), ?_⟩
  | refine ⟨_, _, .type "tuple", .type _, false, rfl, ClsV.ty _, .base (.tup (by walk_at "hp")), kit_ty (by decide +kernel), ?_⟩
  | (refine fun (p : Addr) (hp : _ = none) => ?_)
  | refine iteT ?_
  | refine iteF ?_
  | refine iteD (fun _ => ?_) (fun e => absurd rfl e)
  | refine iteS (fun e => ?_) (fun e => ?_)
  | refine iteI (fun e => ?_) (fun e => ?_)
  | refine iteSn (fun e => ?_) (fun e => ?_)
  | refine iteIn (fun e => ?_) (fun e => ?_)
  | refine iteD (fun e => ?_) (fun e => ?_)
  | refine iteDn (fun e => ?_) (fun e => ?_)
  | refine ite2 (fun e => ?_) (fun e => ?_)))

section
variable {P : Program} {w : World} {K : PySem.W.Frag} {mg : Str → Option Value} {base : Heap}
/-! ### made_nodes -/
def spMade (K : PySem.W.Frag) : Sp := fun vs H Q _ => ∃ (a k : Addr) (rs : List Rw) (ks : List Int), vs = [.ref a, .ref k] ∧ RowsL H a rs ∧ WF rs ∧ rs.length ≤ 20 ∧ ks.length ≤ 100 ∧ (Ints H k ks ∨ OpsT H k ks) ∧
  ∀ (l : Addr) (H' : Hp), Same H H' → H l = none → Ints H' l (made rs ks) → Q (.ref l) H'
theorem ok_made (T : Top w K mg) : FnOk P w K mg base CX0 2 T.a_made_nodes T.d_made_nodes ["rows", "kept"] (spMade K) := by
  have G_made_flags := ok_flags (P := P) (w := w) (base := base) T
  refine T.F_made_nodes.ok sc_made_nodes (fun vs H Q E h => ?_) (fun cdv A outer s H vs Q E hr h => ?_)
  · obtain ⟨a, k, rs, ks, rfl, _⟩ := h
    rfl
  · obtain ⟨a, k, rs, ks, rfl, hR, hW, hn, hkl, hk, q⟩ := h
    obtain ⟨xs, hX, hE⟩ := id hR
    refine ⟨_, (pss_cons (ps_set (i := 2) sc_made_nodes.nd rfl (.inr rfl) (pe_call G_made_flags (hr.mono (by omega)) (by rfl) T.m_made_flags T.F_made_flags.kp T.b_made_flags .nil pass0 (pa_cons (pv 0) (pa_cons (pv 1) pa_nil))))
    (pss_one (ps_ret (pe_lc (own := [("node", 3)]) rfl sc_made_nodes.nd (pi_range1 rfl T.m_range (pa_cons (pe_callB call_len_seq (by rfl) T.m_len (by decide +kernel) (pa_cons (pv 0) pa_nil)) pa_nil)) (blkOk_by (own := [("node", 3)]) (N := ["rows", "kept", "flags", "node"]) (sc := defScope s_made_nodes) (by decide +kernel)) (fun _ _ _ _ _ => (pg_name (i := 3) sc_made_nodes.nd rfl (.inl rfl))) (fun _ _ _ _ _ => pts_one (pt_val (pe_ix (ix_listB (K := K) rfl) (pv 2) (pv 3) (fun _ _ => rfl)))) (fun _ _ _ _ _ => (pv 3)))))), ?_⟩
    walk_at "s"
    refine ⟨a, k, rs, ks, rfl, hR, hW, hn, hkl, hk, fun L H1 sm nL hL => ?_⟩
    have hX1 := sm _ _ hX
    have hXl := hE.len
    walk_at "s"
    rename_i D hD
    have nLD : L ≠ D := ne_of_none hL hD
    have nD : H D = none := sm.free hD
    refine lc_range (lo := 0) (n := ((xs.length : Int)).toNat) (fun i H2 => Same H1 H2 ∧ Ints H2 D (((List.range i).filter fun (n : Nat) => flag (flags rs ks) (n : Int)).map fun (n : Nat) => (n : Int))) ?_ ?_ ?_
    · exact ⟨same_new hD, upd_same⟩
    · intro i H2 hi hP
      obtain ⟨sm2, h2⟩ := hP
      have h3 := sm2 _ _ hL
      simp only [Int.zero_add]
      have hil : i < rs.length := by omega
      walk_at "s"
      refine ⟨_, _, _, _, rfl, rfl, SqL.of h3, at_flag (o := (i : Int)) (by omega) (by rw [flags_len]; omega), ?_⟩
      walk_at "s"
      · rename_i e
        refine ⟨_, h2, ?_, same_mut sm2 hD, ?_⟩
        · have := List.length_filter_le (fun (n : Nat) => flag (flags rs ks) (n : Int)) (List.range i)
          rw [List.length_range] at this
          exact sz_less (by simp only [List.length_map]; omega)
        · show upd _ _ _ _ = _
          rw [upd_same, List.range_succ, List.filter_append, List.map_append, List.map_append, List.filter_cons, if_pos e]
          rfl
      · rename_i e
        show H2 D = _
        rw [List.range_succ, List.filter_append, List.map_append, List.map_append, List.filter_cons, if_neg e]
        rw [show ∀ l : List V, l ++ List.map V.int (List.map (fun (n : Nat) => (n : Int)) (List.filter (fun (n : Nat) => flag (flags rs ks) (n : Int)) [])) = l from fun l => List.append_nil l]
        exact h2
    · intro H2 hP
      obtain ⟨sm2, h2⟩ := hP
      walk_at "s"
      refine q D H2 (sm.trans sm2) nD ?_
      rw [show ((xs.length : Int)).toNat = rs.length from by omega] at h2
      exact h2
/-! ### way_around -/
def spWay (K : PySem.W.Frag) : Sp := fun vs H Q _ => ∃ (a k : Addr) (rs : List Rw) (ks : List Int) (v : Nat), vs = [.ref a, .ref k, .int v] ∧ RowsL H a rs ∧ WF rs ∧ rs.length ≤ 20 ∧ ks.length ≤ 100 ∧ (Ints H k ks ∨ OpsT H k ks) ∧ v < rs.length ∧
  (flag (flags rs ks) v = true → ∀ H', Same H H' → Q .non H') ∧
  (flag (flags rs ks) v = false → ∀ (l : Addr) (H' : Hp) (ws : List Int), Way rs (flags rs ks) v ws → Same H H' → H l = none → Ints H' l ws.reverse → Q (.ref l) H')
theorem ok_way (T : Top w K mg) : FnOk P w K mg base CX0 2 T.a_way_around T.d_way_around ["rows", "kept", "node"] (spWay K) := by
  have G_made_flags := ok_flags (P := P) (w := w) (base := base) T
  refine T.F_way_around.ok sc_way_around (fun vs H Q E h => ?_) (fun cdv A outer s H vs Q E hr h => ?_)
  · obtain ⟨a, k, rs, ks, v, rfl, _⟩ := h
    rfl
  · obtain ⟨a, k, rs, ks, v, rfl, hR, hW, hn, hkl, hk, hv, q1, q2⟩ := h
    obtain ⟨xs, hX, hE⟩ := id hR
    refine ⟨_, (pss_cons (ps_set (i := 3) sc_way_around.nd rfl (.inr rfl) (pe_call G_made_flags (hr.mono (by omega)) (by rfl) T.m_made_flags T.F_made_flags.kp T.b_made_flags .nil pass0 (pa_cons (pv 0) (pa_cons (pv 1) pa_nil))))
    (pss_cons (ps_if (pt_val (pe_ix ix_list (pv 3) (pv 2) (fun _ _ => rfl)))
    (pss_one (ps_ret pe_non))
    pss_nil)
    (pss_cons (ps_set (i := 4) sc_way_around.nd rfl (.inl rfl) (pe_lst (pa_cons (pv 2) pa_nil)))
    (pss_cons (ps_while PassesOwn.never (pt_not (pt_val (pe_ix ix_tup (pe_ix ix_list (pv 0) (pe_ix ix_list (pv 4) (pe_un un_neg pe_int) (fun _ _ => rfl)) (fun _ _ => rfl)) pe_int (fun _ _ => rfl))))
    (pss_one (ps_expr (pe_bm PySem.F.plainAttrs_list PySem.F.slot_list_append PySem.F.type_list_append mt_append (pv 4) (pa_cons (pe_ix ix_list (pe_lc (own := [("operand", 5)]) rfl sc_way_around.nd (pi_list (pe_ix ix_tup (pe_ix ix_list (pv 0) (pe_ix ix_list (pv 4) (pe_un un_neg pe_int) (fun _ _ => rfl)) (fun _ _ => rfl)) pe_int (fun _ _ => rfl))) (blkOk_by (own := [("operand", 5)]) (N := ["rows", "kept", "node", "flags", "way", "operand"]) (sc := defScope s_way_around) (by decide +kernel)) (fun _ _ _ _ _ => (pg_name (i := 5) sc_way_around.nd rfl (.inl rfl))) (fun _ _ _ _ _ => pts_one (pt_not (pt_val (pe_ix (ix_listB (K := K) rfl) (pv 3) (pv 5) (fun _ _ => rfl))))) (fun _ _ _ _ _ => (pv 5))) pe_int (fun _ _ => rfl)) pa_nil)))))
    (pss_one (ps_ret (pe_listRev rfl (by rfl) T.m_list (by rfl) T.m_reversed (pv 4)))))))), ?_⟩
    walk_at "s"
    refine ⟨a, k, rs, ks, rfl, hR, hW, hn, hkl, hk, fun L H1 sm nL hL => ?_⟩
    have hX1 := sm _ _ hX
    have hXl := hE.len
    walk_at "s"
    refine ⟨_, _, _, _, rfl, rfl, SqL.of hL, at_flag (o := (v : Int)) (by omega) (by rw [flags_len]; omega), ?_⟩
    walk_at "s"
    · rename_i e
      exact q1 e H1 sm
    · rename_i e W hW0
      have e : flag (flags rs ks) v = false := by simpa using e
      have nW : H W = none := sm.free hW0
      have nLW : L ≠ W := ne_of_none hL hW0
      refine ⟨fun m σ H2 => ∃ (pre : List Int) (c : Nat) (v5 : Option V), σ = [some (.ref a), some (.ref k), some (.int v), some (.ref L), some (.ref W), v5] ∧ m = c ∧ Same H1 H2 ∧ Ints H2 W (pre ++ [(c : Int)]) ∧ c < rs.length ∧
        flag (flags rs ks) c = false ∧ pre.length + c ≤ v ∧ (∀ l, Way rs (flags rs ks) c l → Way rs (flags rs ks) v (pre ++ l)), ⟨v, [], v, _, rfl, rfl, same_new hW0, upd_same, hv, e, by simp, fun l h => h⟩, fun m σ H2 hP => ?_⟩
      obtain ⟨pre, c, v5, rfl, rfl, sm2, hw, hc, ef, hlen, hway⟩ := hP
      have er : rs[m]? = some rs[m] := List.getElem?_eq_getElem hc
      obtain ⟨u, eu, t, o, rfl, ht, ho⟩ := hE.get er
      have hX2 := sm2 _ _ hX1
      have ht2 := sm2 _ _ (sm _ _ ht)
      have ho2 : OpsL H2 o rs[m].ops := sm2 _ _ (sm _ _ ho)
      have hw2 : H2 W = some (.lst (pre.map V.int ++ [V.int (m : Int)])) := by
        rw [hw, List.map_append]
        rfl
      walk_at "s"
      · rename_i es B hB
        have es : rs[m].src = false := by simpa using es
        obtain ⟨o1, ho1, olt, of1, omem⟩ := bare_one hW er es ef
        have nWB : W ≠ B := ne_of_none hw hB
        have b0 := sm2 _ _ hL
        refine lc_list (xs := rs[m].ops.map V.int) (fun j H3 => Same H2 H3 ∧ Ints H3 B (bare (flags rs ks) (rs[m].ops.take j))) ?_ ?_ ?_ ?_
        · exact ⟨same_new hB, upd_same⟩
        · intro j H3 hj hP
          exact SqL.of (hP.1 _ _ ho2)
        · intro j x H3 hj hP
          obtain ⟨sm4, b1⟩ := hP
          obtain ⟨z, rfl, hz⟩ := map_get hj
          obtain ⟨v0, v1⟩ := (hW m _ er).2.1 z (List.mem_of_getElem? hz)
          have hjl := (List.getElem?_eq_some_iff.mp hz).1
          have b2 := sm4 _ _ b0
          walk_at "s"
          refine ⟨_, _, _, _, rfl, rfl, SqL.of b2, at_flag v0 (by rw [flags_len]; omega), ?_⟩
          walk_at "s"
          · rename_i e1
            have h4 := (hW m _ er).2.2.2
            refine ⟨_, b1, ?_, same_mut sm4 hB, ?_⟩
            · have := bare_len (f := flags rs ks) (l := rs[m].ops.take j)
              rw [List.length_take] at this
              exact sz_less (by simp only [List.length_map]; omega)
            · show upd _ _ _ _ = _
              rw [upd_same, take_snoc hz, bare_yes e1, nums_snoc]
          · rename_i e1
            rw [take_snoc hz, bare_no e1]
            exact b1
        · intro H3 hP
          obtain ⟨sm4, b1⟩ := hP
          rw [List.length_map, List.take_length] at b1
          have b2 := sm4 _ _ hw2
          have hz : (((bare (flags rs ks) rs[m].ops).map V.int))[0]? = some (V.int (o1 : Int)) := by
            rw [List.getElem?_map, ho1]
            rfl
          refine ⟨_, _, _, _, rfl, rfl, SqL.of b1, atI_nat (j := 0) hz, ?_⟩
          walk_at "s"
          refine ⟨o1, olt, pre ++ [(m : Int)], o1, _, rfl, rfl, same_mut (sm2.trans sm4) hW0, ?_, by omega, of1, ?_, fun l hl => ?_⟩
          · show upd _ _ _ _ = _
            rw [upd_same, nums_snoc, nums_snoc]
          · rw [List.length_append, List.length_singleton]
            omega
          · rw [List.append_assoc]
            exact hway _ (.step er es ho1 hl)
      · rename_i es B hB
        have es : rs[m].src = true := by simpa using es
        refine q2 e B _ _ (hway _ (.src er es)) (sm.trans (sm2.trans (same_new hB))) (sm.free (sm2.free hB)) ?_
        show upd _ _ _ _ = _
        rw [upd_same, nums_snoc, List.map_reverse]
end
end K17W
set_option Elab.async false
set_option linter.all false
set_option maxRecDepth 100000
set_option maxHeartbeats 4000000
namespace K17W
open PySem PySem.Spec PyProof.Rows L2 TL LW NT
local macro_rules | `(tactic| walk_at "ne") => `(tactic| first
  | assumption
  | exact Ne.symm (by assumption)
  | exact ne_of_none (by assumption) (by assumption)
  | exact (ne_of_none (by assumption) (by assumption)).symm
  | (apply ne_of_none; (case h' => assumption); (case h => walk_at "hp"))
  | (apply Ne.symm; apply ne_of_none; (case h' => assumption); (case h => walk_at "hp")))
local macro_rules | `(tactic| walk_at "hp") => `(tactic| first
  | assumption
  | exact upd_same
  | exact hp_new (by assumption) (by assumption)
  | (apply hp_new; (case n => assumption); (case h => walk_at "hp"))
  | (refine (upd_ne ?ne).trans ?hp; (case ne => walk_at "ne"); (case hp => walk_at "hp")))
local macro_rules | `(tactic| walk_at "sq") => `(tactic| first
  | ((with_reducible show SqL _ _ _ _); assumption)
  | ((with_reducible show SqT _ _ _ _); assumption)
  | exact SqL.of (by assumption)
  | exact SqL.of upd_same
  | exact SqT.of (by assumption)
  | exact SqT.of upd_same
  | (apply SqL.of; walk_at "hp")
  | (apply SqT.of; walk_at "hp"))
local macro_rules | `(tactic| walk_at "len") => `(tactic| first
  | assumption
  | exact sz_small (by omega)
  | exact sz_less (by omega)
  | decide
  | (refine sz_small ?_; simp only [List.length_append, List.length_cons, List.length_nil, List.length_map, str_len]; omega)
  | (refine sz_less ?_; simp only [List.length_append, List.length_cons, List.length_nil, List.length_map, str_len]; omega))
local macro_rules | `(tactic| walk_at "cond") => `(tactic| first
  | omega
  | (split <;> omega)
  | assumption
  | exact .inl ⟨by omega, by omega⟩
  | exact .inr ⟨by omega, by omega⟩
  | exact ⟨by omega, by omega⟩
  | (show (0 : Int) < _; omega)
  | (show (0 : Int) < _; decide +kernel)
  | exact ⟨by omega, by omega, by decide⟩
  | walk_at "len"
  | rfl
  | (show CMulW _ _; unfold CMulW; decide +kernel)
  | exact ⟨_, rfl⟩
  | decide +kernel
  | exact ⟨_, by walk_at "sq"⟩
  | exact .inl ⟨rfl, _, by walk_at "sq"⟩)
local macro_rules | `(tactic| walk_at "at") => `(tactic| first
  | assumption
  | exact atI_nat (by assumption)
  | exact atI_last _ _
  | exact atI_nat (j := 0) rfl
  | exact atI_nat (j := 1) rfl
  | exact atI_nat (j := 2) rfl
  | exact atI_nat (j := 3) rfl
  | exact atI_nat (j := 4) rfl)
local macro_rules | `(tactic| walk_at "ix") => `(tactic| first
  | assumption
  | (with_reducible exact ixN_0 (by simp; done))
  | (with_reducible exact ixN_1 (by simp; done))
  | (with_reducible exact ixN_2 (by simp; done))
  | (with_reducible exact Evl.ixN_nat (by assumption))
  | (with_reducible exact Evl.ixN_nat (by omega)))
local macro_rules | `(tactic| walk_at "v") => `(tactic| first
  | exact val_var rfl
  | (with_reducible exact val_c)
  | (with_reducible apply val_orV; (case ha => walk_at "v"); (case hb => walk_at "v"))
  | (with_reducible apply val_andV; (case ha => walk_at "v"); (case hb => walk_at "v"))
  | (with_reducible apply val_notV; walk_at "v")
  | (with_reducible apply val_ifS; (case h => walk_at "w"); (case ha => walk_at "v"); (case hb => walk_at "v"))
  | (with_reducible apply val_ifI; (case h => walk_at "w"); (case ha => walk_at "v"); (case hb => walk_at "v"))
  | (with_reducible apply val_ifB; (case h => walk_at "w"); (case ha => walk_at "v"); (case hb => walk_at "v"))
  | (with_reducible apply val_eqS; (case ha => walk_at "v"); (case hb => walk_at "v"))
  | (with_reducible apply val_eqI; (case ha => walk_at "v"); (case hb => walk_at "v"))
  | (with_reducible apply val_neS; (case ha => walk_at "v"); (case hb => walk_at "v"))
  | (with_reducible apply val_neI; (case ha => walk_at "v"); (case hb => walk_at "v"))
  | (with_reducible apply val_op; (case ha => walk_at "v"); (case hb => walk_at "v"); (case hr => exact fun Q q => ⟨_, _, rfl, rfl, q⟩)))
local macro_rules | `(tactic| walk_at "w") => `(tactic| first
  | (with_reducible apply ans_or2; (case h1 => walk_at "w"); (case h2 => walk_at "w"))
  | (with_reducible apply ans_and2; (case h1 => walk_at "w"); (case h2 => walk_at "w"))
  | (with_reducible apply ans_not; walk_at "w")
  | (with_reducible apply ans_test; walk_at "v")
  | (with_reducible apply ans_val; walk_at "v"))
local macro_rules | `(tactic| walk_at "s1") => `(tactic| first
  | (with_reducible refine go_c ?_)
  | (with_reducible apply go_pick; (case hs => walk_at "hp"); (case h0 => walk_at "cond"); (case h1 => walk_at "cond"); (case' q => intro k a b c h0 h1))
  | (with_reducible refine go_nil ?_)
  | (with_reducible refine go_cons ?_)
  | (with_reducible refine go_call ?_)
  | (with_reducible refine go_cb ?_)
  | (with_reducible refine go_next ?_)
  | (with_reducible refine go_cont ?_)
  | (with_reducible refine go_ret ?_)
  | (with_reducible refine go_name ?_)
  | (with_reducible refine go_seq ?_)
  | (with_reducible refine go_asg ?_)
  | (with_reducible apply go_or; (case h => walk_at "v"))
  | (with_reducible apply go_and; (case h => walk_at "v"))
  | (with_reducible apply go_andL; (case h => walk_at "v"); (case' h1 => intro e); (case' h2 => intro e))
  | (with_reducible apply go_orL; (case h => walk_at "v"); (case' h1 => intro e); (case' h2 => intro e))
  | (with_reducible apply go_ifE; (case h => walk_at "v"))
  | (with_reducible apply go_ifOr; (case h => walk_at "w"); (case' h1 => intro e); (case' h2 => intro e))
  | (with_reducible apply go_ifAnd; (case h => walk_at "w"); (case' h1 => intro e); (case' h2 => intro e))
  | (with_reducible refine go_min ?_)
  | refine ⟨_, rfl, ?_⟩
  | refine ⟨_, _, rfl, rfl, ?_⟩
  | (refine And.intro ?cc ?_; (case cc => walk_at "cond"))
  | refine ⟨_, _, _, _, rfl, rfl, by walk_at "sq", by walk_at "at", ?_⟩
  | refine ⟨_, _, _, _, rfl, rfl, by walk_at "hp", by walk_at "ix", ?_⟩
  | refine ⟨_, _, _, _, rfl, rfl, by walk_at "hp", by walk_at "hp", by walk_at "len", ?_⟩
  | refine ⟨_, _, _, rfl, rfl, by walk_at "len", by walk_at "at", ?_⟩
  | refine ⟨_, _, _, rfl, rfl, by walk_at "hp", by walk_at "len", ?_⟩
  | refine ⟨_, _, _, rfl, rfl, by walk_at "hp", by walk_at "at", ?_⟩
  | refine ⟨_, _, rfl, rfl, by walk_at "sq", ?_⟩
  | refine ⟨_, _, rfl, rfl, by walk_at "len", ?_⟩
  | refine ⟨_, _, rfl, by walk_at "sq", ?_⟩
  | refine ⟨_, _, rfl, .inl (by walk_at "sq"), ?_⟩
  | refine ⟨_, _, rfl, .inr (by walk_at "sq"), ?_⟩
  | refine ⟨_, _, rfl, by walk_at "sq", rfl, ?_⟩
  | refine ⟨_, fun _ _ h => h, ?_⟩
  | refine ⟨_, _, rfl, ?_⟩
  | refine .inl ⟨_, rfl, ?_⟩
  | refine ⟨_, _, .type "int", .type _, true, rfl, ClsV.ty _, .base (.int _), kit_ty (by decide +kernel), ?_⟩
  | refine ⟨_, _, .type "int", .type _, false, rfl, ClsV.ty _, .base (.int _), kit_ty (by decide +kernel), ?_⟩
  | refine ⟨_, _, .type "bool", .type _, true, rfl, ClsV.ty _, .base (.bl _), kit_ty (by decide +kernel), ?_⟩
  | refine ⟨_, _, .type "bool", .type _, false, rfl, ClsV.ty _, .base (.bl _), kit_ty (by decide +kernel), ?_⟩
  | refine ⟨_, _, .type "str", .type _, true, rfl, ClsV.ty _, .base (.str _), kit_ty (by decide +kernel), ?_⟩
  | refine ⟨_, _, .type "str", .type _, false, rfl, ClsV.ty _, .base (.str _), kit_ty (by decide +kernel), ?_⟩
  | refine ⟨_, _, .type "NoneType", .type _, true, rfl, ClsV.ty _, .base (.non), kit_ty (by decide +kernel), ?_⟩
  | refine ⟨_, _, .type "NoneType", .type _, false, rfl, ClsV.ty _, .base (.non), kit_ty (by decide +kernel), ?_⟩
  | refine ⟨_, _, .type "list", .type _, true, rfl, ClsV.ty _, .base (.lst (by walk_at "hp")), kit_ty (by decide +kernel), ?_⟩
  | refine ⟨_, _, .type "list", .type _, false, rfl, ClsV.ty _, .base (.lst (by walk_at "hp")), kit_ty (by decide +kernel), ?_⟩
  | refine ⟨_, _, .type "tuple", .type _, true, rfl, ClsV.ty _, .base (.tup (by walk_at "hp")), kit_ty (by decide +kernel), ?_⟩
  | refine ⟨_, _, .type "tuple", .type _, false, rfl, ClsV.ty _, .base (.tup (by walk_at "hp")), kit_ty (by decide +kernel), ?_⟩
  | (refine fun (p : Addr) (hp : _ = none) => ?_)
  | refine iteT ?_
  | refine iteF ?_
  | refine iteD (fun _ => ?_) (fun e => absurd rfl e)
  | refine iteS (fun e => ?_) (fun e => ?_)
  | refine iteI (fun e => ?_) (fun e => ?_)
  | refine iteSn (fun e => ?_) (fun e => ?_)
  | refine iteIn (fun e => ?_) (fun e => ?_)
  | refine iteD (fun e => ?_) (fun e => ?_)
  | refine iteDn (fun e => ?_) (fun e => ?_)
  | refine ite2 (fun e => ?_) (fun e => ?_))
local macro_rules | `(tactic| walk_at "s") => `(tactic| repeat' (first
  | (with_reducible refine go_c ?_)
  | (with_reducible apply go_pick; (case hs => walk_at "hp"); (case h0 => walk_at "cond"); (case h1 => walk_at "cond"); (case' q => intro k a b c h0 h1))
  | (with_reducible refine go_nil ?_)
  | (with_reducible refine go_cons ?_)
  | (with_reducible refine go_call ?_)
  | (with_reducible refine go_cb ?_)
  | (with_reducible refine go_next ?_)
  | (with_reducible refine go_cont ?_)
  | (with_reducible refine go_ret ?_)
  | (with_reducible refine go_name ?_)
  | (with_reducible refine go_seq ?_)
  | (with_reducible refine go_asg ?_)
  | (with_reducible apply go_or; (case h => walk_at "v"))
  | (with_reducible apply go_and; (case h => walk_at "v"))
  | (with_reducible apply go_andL; (case h => walk_at "v"); (case' h1 => intro e); (case' h2 => intro e))
  | (with_reducible apply go_orL; (case h => walk_at "v"); (case' h1 => intro e); (case' h2 => intro e))
  | (with_reducible apply go_ifE; (case h => walk_at "v"))
  | (with_reducible apply go_ifOr; (case h => walk_at "w"); (case' h1 => intro e); (case' h2 => intro e))
  | (with_reducible apply go_ifAnd; (case h => walk_at "w"); (case' h1 => intro e); (case' h2 => intro e))
  | (with_reducible refine go_min ?_)
  | refine ⟨_, rfl, ?_⟩
  | refine ⟨_, _, rfl, rfl, ?_⟩
  | (refine And.intro ?cc ?_; (case cc => walk_at "cond"))
  | refine ⟨_, _, _, _, rfl, rfl, by walk_at "sq", by walk_at "at", ?_⟩
  | refine ⟨_, _, _, _, rfl, rfl, by walk_at "hp", by walk_at "ix", ?_⟩
  | refine ⟨_, _, _, _, rfl, rfl, by walk_at "hp", by walk_at "hp", by walk_at "len", ?_⟩
  | refine ⟨_, _, _, rfl, rfl, by walk_at "len", by walk_at "at", ?_⟩
  | refine ⟨_, _, _, rfl, rfl, by walk_at "hp", by walk_at "len", ?_⟩
  | refine ⟨_, _, _, rfl, rfl, by walk_at "hp", by walk_at "at", ?_⟩
  | refine ⟨_, _, rfl, rfl, by walk_at "sq", ?_⟩
  | refine ⟨_, _, rfl, rfl, by walk_at "len", ?_⟩
  | refine ⟨_, _, rfl, by walk_at "sq", ?_⟩
  | refine ⟨_, _, rfl, .inl (by walk_at "sq"), ?_⟩
  | refine ⟨_, _, rfl, .inr (by walk_at "sq"), ?_⟩
  | refine ⟨_, _, rfl, by walk_at "sq", rfl, ?_⟩
  | refine ⟨_, fun _ _ h => h, ?_⟩
  | refine ⟨_, _, rfl, ?_⟩
  | refine .inl ⟨_, rfl, ?_⟩
  | refine ⟨_, _, .type "int", .type _, true, rfl, ClsV.ty _, .base (.int _), kit_ty (by decide +kernel), ?_⟩
  | refine ⟨_, _, .type "int", .type _, false, rfl, ClsV.ty _, .base (.int _), kit_ty (by decide +kernel), ?_⟩
  | refine ⟨_, _, .type "bool", .type _, true, rfl, ClsV.ty _, .base (.bl _), kit_ty (by decide +kernel), ?_⟩
  | refine ⟨_, _, .type "bool", .type _, false, rfl, ClsV.ty _, .base (.bl _), kit_ty (by decide +kernel), ?_⟩
  | refine ⟨_, _, .type "str", .type _, true, rfl, ClsV.ty _, .base (.str _), kit_ty (by decide +kernel), ?_⟩
  | refine ⟨_, _, .type "str", .type _, false, rfl, ClsV.ty _, .base (.str _), kit_ty (by decide +kernel), ?_⟩
  | refine ⟨_, _, .type "NoneType", .type _, true, rfl, ClsV.ty _, .base (.non), kit_ty (by decide +kernel), ?_⟩
  | refine ⟨_, _, .type "NoneType", .type _, false, rfl, ClsV.ty _, .base (.non), kit_ty (by decide +kernel), ?_⟩
  | refine ⟨_, _, .type "list", .type _, true, rfl, ClsV.ty _, .base (.lst (by walk_at "hp")), kit_ty (by decide +kernel), ?_⟩
  | refine ⟨_, _, .type "list", .type _, false, rfl, ClsV.ty _, .base (.lst (by walk_at "hp")), kit_ty (by decide +kernel), ?_⟩
  | refine ⟨_, _, .type "tuple", .type _, true, rfl, ClsV.ty _, .base (.tup (by walk_at "hp")), kit_ty (by decide +kernel), ?_⟩
  | refine ⟨_, _, .type "tuple", .type _, false, rfl, ClsV.ty _, .base (.tup (by walk_at "hp")), kit_ty (by decide +kernel), ?_⟩
  | (refine fun (p : Addr) (hp : _ = none) => ?_)
  | refine iteT ?_
  | refine iteF ?_
  | refine iteD (fun _ => ?_) (fun e => absurd rfl e)
  | refine iteS (fun e => ?_) (fun e => ?_)
  | refine iteI (fun e => ?_) (fun e => ?_)
  | refine iteSn (fun e => ?_) (fun e => ?_)
  | refine iteIn (fun e => ?_) (fun e => ?_)
  | refine iteD (fun e => ?_) (fun e => ?_)
  | refine iteDn (fun e => ?_) (fun e => ?_)
  | refine ite2 (fun e => ?_) (fun e => ?_)))

section
variable {P : Program} {w : World} {K : PySem.W.Frag} {mg : Str → Option Value} {base : Heap}
/-- a net stands at p -/
def NetAt (T : Top w K mg) (H : Hp) (p : Addr) (rs : List Rw) : Prop := ∃ dx o, H p = some (.ins T.C_Net dx (putF "own_nodes" (.ref o) [])) ∧ RowsL H o rs
theorem NetAt.same {T : Top w K mg} {H H' : Hp} (e : Same H H') {p : Addr} {rs : List Rw} : NetAt T H p rs → NetAt T H' p rs := fun ⟨dx, o, h1, h2⟩ => ⟨dx, o, e _ _ h1, h2.same e⟩
/-- a row whose list of operands is new -/
def RowN (H0 H : Hp) (v : V) (r : Rw) : Prop := ∃ t z, v = .ref t ∧ H t = some (.tup [.int r.sz, .ref z, .bl r.src]) ∧ OpsL H z r.ops ∧ H0 z = none
theorem RowN.same {H0 H H' : Hp} (e : Same H H') {v : V} {r : Rw} : RowN H0 H v r → RowN H0 H' v r := fun ⟨t, o, h1, h2, h3, h4⟩ => ⟨t, o, h1, e _ _ h2, e _ _ h3, h4⟩
theorem RowN.row {H0 H : Hp} {v : V} {r : Rw} : RowN H0 H v r → RowL H v r := fun ⟨t, o, h1, h2, h3, _⟩ => ⟨t, o, h1, h2, h3⟩
/-- a net at p, all of its lists new -/
def NetN (T : Top w K mg) (H0 H : Hp) (p : Addr) (rs : List Rw) : Prop := ∃ dx o ys, H p = some (.ins T.C_Net dx (putF "own_nodes" (.ref o) [])) ∧ H0 o = none ∧ H o = some (.lst ys) ∧ Each (RowN H0 H) ys rs
theorem NetN.hid {T : Top w K mg} {H0 H : Hp} {p W : Addr} {rs : List Rw} {o0 : HO} {ys : List V} (h : NetN T H0 H p rs) (h0 : H0 W = some o0) (hw : H W = some (.lst ys)) : NetAt T (wo W H) p rs := by
  obtain ⟨dx, o, xs, h1, h2, h3, h4⟩ := h
  have npW : p ≠ W := ne_of h1 hw (by intro z; cases z)
  have noW : o ≠ W := (ne_of_none h0 h2).symm
  refine ⟨dx, o, (wo_ne npW).trans h1, xs, (wo_ne noW).trans h3, h4.mono fun v r hr => ?_⟩
  obtain ⟨t, z, e1, e2, e3, e4⟩ := hr
  have ntW : t ≠ W := ne_of e2 hw (by intro z; cases z)
  have nzW : z ≠ W := (ne_of_none h0 e4).symm
  exact ⟨t, z, e1, (wo_ne ntW).trans e2, (wo_ne nzW).trans e3⟩
def spInit (T : Top w K mg) : Sp := fun vs H Q _ => ∃ (p a dx : Addr) (rs : List Rw), vs = [.ref p, .ref a] ∧ H p = some (.ins T.C_Net dx []) ∧ RowsT H a rs ∧ WF rs ∧ rs.length ≤ 20 ∧ (∀ H', But p H H' → NetN T H H' p rs → Q .non H')
theorem ok_init (T : Top w K mg) : FnOk P w K mg base CX0 2 T.a_Net___init__ T.d_Net___init__ ["self", "rows"] (spInit T) := by
  have G_bound := ok_bound (P := P) (w := w) (base := base) T
  refine T.F_Net___init__.ok sc_Net___init__ (fun vs H Q E h => ?_) (fun cdv A outer s H vs Q E hr h => ?_)
  · obtain ⟨p, a, dx, rs, rfl, _⟩ := h
    rfl
  · obtain ⟨p, a, dx, rs, rfl, hp, ⟨xs, hX, hE⟩, hW, hn, q⟩ := h
    have hXl := hE.len
    refine ⟨_, (pss_cons (ps_expr (pe_call G_bound (hr.mono (by omega)) (by rfl) T.m_bound T.F_bound.kp T.b_bound .nil pass0 (pa_cons pe_str (pa_cons (pe_callB call_len_seq (by rfl) T.m_len (by decide +kernel) (pa_cons (pv 1) pa_nil)) pa_nil))))
    (pss_cons (ps_fld (pv 0) (pe_lst pa_nil) rfl)
    (pss_one (ps_for PassesOwn.never rfl (pi_range1 rfl T.m_range (pa_cons (pe_callB call_len_seq (by rfl) T.m_len (by decide +kernel) (pa_cons (pv 1) pa_nil)) pa_nil)) (pg_name (i := 2) sc_Net___init__.nd rfl (.inr rfl))
    (pss_cons (ps_asg (pe_ix ix_list (pv 1) (pv 2) (fun _ _ => rfl)) (pg_tup rfl (pgs_cons (pg_name (i := 3) sc_Net___init__.nd rfl (.inl rfl)) (pgs_cons (pg_name (i := 4) sc_Net___init__.nd rfl (.inl rfl)) (pgs_cons (pg_name (i := 5) sc_Net___init__.nd rfl (.inl rfl)) pgs_nil)))))
    (pss_cons (ps_if (PW.pt (pw_or (pt_cmpR op_lt (pv 3) pe_int (nomark _)) (pw_or1 (PW.pt (pw_and (pt_val (pv 5)) (pw_and1 (pt_cmpR op_gt (pe_callB call_len_seq (by rfl) T.m_len (by decide +kernel) (pa_cons (pv 4) pa_nil)) pe_int (nomark _)))))))) pss_never
    pss_nil)
    (pss_cons (ps_if (pt_not (pt_val (pe_callB (cr_all rfl) (by rfl) T.m_all (by decide +kernel) (pa_cons (pe_lc (own := [("operand", 6)]) rfl sc_Net___init__.nd (pi_tup (pv 4)) (blkOk_by (own := [("operand", 6)]) (N := ["self", "rows", "node", "size", "operands", "source", "operand"]) (sc := defScope s_Net___init__) (by decide +kernel)) (fun _ _ _ _ _ => (pg_name (i := 6) sc_Net___init__.nd rfl (.inl rfl))) (fun _ _ _ _ _ => pts_nil) (fun _ _ _ _ _ => (pe_chain op_le op_lt pe_int (pv 6) (pv 2)))) pa_nil)))) pss_never
    pss_nil)
    (pss_one (ps_expr (pe_bm PySem.F.plainAttrs_list PySem.F.slot_list_append PySem.F.type_list_append mt_append (pe_fld (pv 0) rfl) (pa_cons (pe_tup (pa_cons (pv 3) (pa_cons (pe_callTy call_list_of (by rfl) T.m_list (by decide +kernel) (pa_cons (pv 4) pa_nil)) (pa_cons (pv 5) pa_nil)))) pa_nil))))))))))), ?_⟩
    walk_at "s"
    rename_i o ho
    have npo : p ≠ o := ne_of_none hp ho
    have nap : a ≠ p := ne_of hX hp (by intro z; cases z)
    have nao : a ≠ o := ne_of_none hX ho
    refine ⟨p, T.C_Net, dx, _, rfl, by walk_at "hp", T.cl_Net, T.n_Net_own_nodes, by decide, ?_⟩
    walk_at "s"
    refine for_range (lo := 0) (n := ((xs.length : Int)).toNat) (fun i σ H2 => ∃ v2 v3 v4 v5 v6 ys, σ = [some (.ref p), some (.ref a), v2, v3, v4, v5, v6] ∧ But p H H2 ∧ H2 p = some (.ins T.C_Net dx (putF "own_nodes" (.ref o) [])) ∧ H2 o = some (.lst ys) ∧ Each (RowN H (wo o H2)) ys (rs.take i)) ?_ ?_ ?_
    · exact ⟨_, _, _, _, _, [], rfl, (But.of (same_new ho)).trans But.upd, upd_same, by walk_at "hp", .nil⟩
    · intro i σ H2 hi hP
      obtain ⟨v2, v3, v4, v5, v6, ys, rfl, but, h1, h2, h3⟩ := hP
      have hil : i < rs.length := by omega
      have er : rs[i]? = some rs[i] := List.getElem?_eq_getElem hil
      obtain ⟨u, eu, t, z, rfl, ht, hz⟩ := hE.get er
      have hz0 : H z = some (.tup (rs[i].ops.map V.int)) := hz
      have hX2 := but _ _ nap hX
      have ht2 := but _ _ (ne_of ht hp (by intro z; cases z)) ht
      have hz2 := but _ _ (ne_of hz0 hp (by intro z; cases z)) hz0
      have hok := hW i _ er
      have hol : ys.length ≤ 20 := by
        rw [h3.len, List.length_take]
        omega
      simp only [Int.zero_add]
      walk_at "s"
      · rename_i e
        have := hok.1
        exact absurd e (by omega)
      · rename_i e0 e1 e2
        rw [hok.2.2.1 e1] at e2
        exact absurd e2 (by decide)
      all_goals
        rename_i B hB
        have noB : o ≠ B := ne_of_none h2 hB
        have npB : p ≠ B := ne_of_none h1 hB
        have h4 := hok.2.2.2
        refine lc_tup (xs := rs[i].ops.map V.int) (fun j H3 => Same H2 H3 ∧ H3 B = some (.lst ((List.replicate j true).map V.bl))) ?_ ?_ ?_ ?_
        · exact ⟨same_new hB, upd_same⟩
        · intro j H3 hj hP
          exact SqT.of (hP.1 _ _ hz2)
        · intro j x H3 hj hP
          obtain ⟨sm4, b1⟩ := hP
          obtain ⟨v, rfl, hv⟩ := map_get hj
          obtain ⟨v0, v1⟩ := hok.2.1 v (List.mem_of_getElem? hv)
          have hjl := (List.getElem?_eq_some_iff.mp hv).1
          walk_at "s"
          · refine ⟨_, b1, sz_less (by simp only [List.length_map, List.length_replicate]; omega), same_mut sm4 hB, ?_⟩
            show upd _ _ (HO.lst (_ ++ [V.bl (decide (v < (i : Int)))])) _ = _
            rw [upd_same, decide_eq_true v1, List.replicate_succ', List.map_append]
            rfl
          · rename_i e
            exact absurd v0 e
        · intro H3 hP
          obtain ⟨sm4, b1⟩ := hP
          have kall : ∀ n, (List.replicate n true).all id = true := fun n => by
            rw [List.all_eq_true]
            intro x hx
            rw [List.eq_of_mem_replicate hx]
            rfl
          have k1 := sm4 _ _ h1
          have k2 := sm4 _ _ h2
          have k3 := sm4 _ _ hz2
          walk_at "s"
          · rename_i e
            rw [kall] at e
            cases e
          · refine ⟨p, T.C_Net, dx, _, .ref o, rfl, k1, T.cl_Net, T.n_Net_own_nodes, (by rw [lookup_putF, if_pos rfl]), ?_⟩
            walk_at "s"
            rename_i z2 hz2' t2 ht2'
            have s1 : Same H3 (upd H3 z2 (.lst (rs[i].ops.map V.int))) := same_new hz2'
            have s2 := s1.trans (same_new (o := .tup [V.int rs[i].sz, V.ref z2, V.bl rs[i].src]) ht2')
            have noz : z2 ≠ o := (ne_of_none k2 hz2').symm
            have not : t2 ≠ o := (ne_of_none (s1 _ _ k2) ht2').symm
            refine ⟨_, _, _, _, _, _, rfl, but_mut (but.trans' (sm4.trans s2)) ho, by walk_at "hp", upd_same, ?_⟩
            rw [take_snoc er]
            have b2 : But o H2 (upd (upd (upd H3 z2 (.lst (rs[i].ops.map V.int))) t2 (.tup [V.int rs[i].sz, V.ref z2, V.bl rs[i].src])) o (.lst (ys ++ [V.ref t2]))) := (But.of (sm4.trans s2)).trans But.upd
            have nz2 : H z2 = none := (but.trans' sm4).free (ne_of_none k1 hz2').symm hz2'
            refine (h3.mono fun _ _ => RowN.same b2.hid).snoc ⟨t2, z2, rfl, ?_, ?_, nz2⟩
            · rw [wo_ne not, upd_ne not]
              exact upd_same
            · show wo _ _ _ = _
              rw [wo_ne noz, upd_ne noz]
              exact (upd_ne (ne_of_none upd_same ht2')).trans upd_same
    · intro σ H2 hP
      obtain ⟨v2, v3, v4, v5, v6, ys, rfl, but, h1, h2, h3⟩ := hP
      rw [show ((xs.length : Int)).toNat = rs.length from by omega, List.take_length] at h3
      exact q H2 but ⟨dx, o, ys, h1, ho, h2, h3.mono fun _ _ => RowN.same wo_same⟩
/-! ### made, around -/
def spNetMade (T : Top w K mg) : Sp := fun vs H Q _ => ∃ (p k : Addr) (rs : List Rw) (ks : List Int), vs = [.ref p, .ref k] ∧ NetAt T H p rs ∧ WF rs ∧ rs.length ≤ 20 ∧ ks.length ≤ 100 ∧ (Ints H k ks ∨ OpsT H k ks) ∧
  ∀ (l : Addr) (H' : Hp), Same H H' → H l = none → Ints H' l (made rs ks) → Q (.ref l) H'
theorem ok_netmade (T : Top w K mg) : FnOk P w K mg base CX0 3 T.a_Net_made T.d_Net_made ["self", "kept"] (spNetMade T) := by
  have G_made_nodes := ok_made (P := P) (w := w) (base := base) T
  refine T.F_Net_made.ok sc_Net_made (fun vs H Q E h => ?_) (fun cdv A outer s H vs Q E hr h => ?_)
  · obtain ⟨a, k, rs, ks, rfl, _⟩ := h
    rfl
  · obtain ⟨p, k, rs, ks, rfl, ⟨dx, o, hp, hR⟩, hW, hn, hkl, hk, q⟩ := h
    refine ⟨_, (pss_one (ps_ret (pe_call G_made_nodes (hr.mono (by omega)) (by rfl) T.m_made_nodes T.F_made_nodes.kp T.b_made_nodes .nil pass0 (pa_cons (pe_fld (pv 0) rfl) (pa_cons (pv 1) pa_nil))))), ?_⟩
    walk_at "s"
    refine ⟨p, T.C_Net, dx, _, .ref o, rfl, hp, T.cl_Net, T.n_Net_own_nodes, (by rw [lookup_putF, if_pos rfl]), ?_⟩
    walk_at "s"
    exact ⟨o, k, rs, ks, rfl, hR, hW, hn, hkl, hk, q⟩
def spNetWay (T : Top w K mg) : Sp := fun vs H Q _ => ∃ (p k : Addr) (rs : List Rw) (ks : List Int) (v : Nat), vs = [.ref p, .ref k, .int v] ∧ NetAt T H p rs ∧ WF rs ∧ rs.length ≤ 20 ∧ ks.length ≤ 100 ∧ (Ints H k ks ∨ OpsT H k ks) ∧ v < rs.length ∧
  (flag (flags rs ks) v = true → ∀ H', Same H H' → Q .non H') ∧
  (flag (flags rs ks) v = false → ∀ (l : Addr) (H' : Hp) (ws : List Int), Way rs (flags rs ks) v ws → Same H H' → H l = none → Ints H' l ws.reverse → Q (.ref l) H')
theorem ok_netway (T : Top w K mg) : FnOk P w K mg base CX0 3 T.a_Net_around T.d_Net_around ["self", "kept", "node"] (spNetWay T) := by
  have G_way_around := ok_way (P := P) (w := w) (base := base) T
  refine T.F_Net_around.ok sc_Net_around (fun vs H Q E h => ?_) (fun cdv A outer s H vs Q E hr h => ?_)
  · obtain ⟨a, k, rs, ks, v, rfl, _⟩ := h
    rfl
  · obtain ⟨p, k, rs, ks, v, rfl, ⟨dx, o, hp, hR⟩, hW, hn, hkl, hk, hv, q1, q2⟩ := h
    refine ⟨_, (pss_one (ps_ret (pe_call G_way_around (hr.mono (by omega)) (by rfl) T.m_way_around T.F_way_around.kp T.b_way_around .nil pass0 (pa_cons (pe_fld (pv 0) rfl) (pa_cons (pv 1) (pa_cons (pv 2) pa_nil)))))), ?_⟩
    walk_at "s"
    refine ⟨p, T.C_Net, dx, _, .ref o, rfl, hp, T.cl_Net, T.n_Net_own_nodes, (by rw [lookup_putF, if_pos rfl]), ?_⟩
    walk_at "s"
    exact ⟨o, k, rs, ks, v, rfl, hR, hW, hn, hkl, hk, hv, q1, q2⟩
end
end K17W
set_option Elab.async false
set_option linter.all false
set_option maxRecDepth 100000
set_option maxHeartbeats 4000000
namespace K17W
open PySem PySem.Spec PyProof.Rows L2 TL LW NT
local macro_rules | `(tactic| walk_at "ne") => `(tactic| first
  | assumption
  | exact Ne.symm (by assumption)
  | exact ne_of_none (by assumption) (by assumption)
  | exact (ne_of_none (by assumption) (by assumption)).symm
  | (apply ne_of_none; (case h' => assumption); (case h => walk_at "hp"))
  | (apply Ne.symm; apply ne_of_none; (case h' => assumption); (case h => walk_at "hp")))
local macro_rules | `(tactic| walk_at "hp") => `(tactic| first
  | assumption
  | exact upd_same
  | exact hp_new (by assumption) (by assumption)
  | (apply hp_new; (case n => assumption); (case h => walk_at "hp"))
  | (refine (upd_ne ?ne).trans ?hp; (case ne => walk_at "ne"); (case hp => walk_at "hp")))
local macro_rules | `(tactic| walk_at "sq") => `(tactic| first
  | ((with_reducible show SqL _ _ _ _); assumption)
  | ((with_reducible show SqT _ _ _ _); assumption)
  | exact SqL.of (by assumption)
  | exact SqL.of upd_same
  | exact SqT.of (by assumption)
  | exact SqT.of upd_same
  | (apply SqL.of; walk_at "hp")
  | (apply SqT.of; walk_at "hp"))
local macro_rules | `(tactic| walk_at "len") => `(tactic| first
  | assumption
  | exact sz_small (by omega)
  | exact sz_less (by omega)
  | decide
  | (refine sz_small ?_; simp only [List.length_append, List.length_cons, List.length_nil, List.length_map, str_len]; omega)
  | (refine sz_less ?_; simp only [List.length_append, List.length_cons, List.length_nil, List.length_map, str_len]; omega))
local macro_rules | `(tactic| walk_at "cond") => `(tactic| first
  | omega
  | (split <;> omega)
  | assumption
  | exact .inl ⟨by omega, by omega⟩
  | exact .inr ⟨by omega, by omega⟩
  | exact ⟨by omega, by omega⟩
  | (show (0 : Int) < _; omega)
  | (show (0 : Int) < _; decide +kernel)
  | exact ⟨by omega, by omega, by decide⟩
  | walk_at "len"
  | rfl
  | (show CMulW _ _; unfold CMulW; decide +kernel)
  | exact ⟨_, rfl⟩
  | decide +kernel
  | exact ⟨_, by walk_at "sq"⟩
  | exact .inl ⟨rfl, _, by walk_at "sq"⟩)
local macro_rules | `(tactic| walk_at "at") => `(tactic| first
  | assumption
  | exact atI_nat (by assumption)
  | exact atI_last _ _
  | exact atI_nat (j := 0) rfl
  | exact atI_nat (j := 1) rfl
  | exact atI_nat (j := 2) rfl
  | exact atI_nat (j := 3) rfl
  | exact atI_nat (j := 4) rfl)
local macro_rules | `(tactic| walk_at "ix") => `(tactic| first
  | assumption
  | (with_reducible exact ixN_0 (by simp; done))
  | (with_reducible exact ixN_1 (by simp; done))
  | (with_reducible exact ixN_2 (by simp; done))
  | (with_reducible exact Evl.ixN_nat (by assumption))
  | (with_reducible exact Evl.ixN_nat (by omega)))
local macro_rules | `(tactic| walk_at "v") => `(tactic| first
  | exact val_var rfl
  | (with_reducible exact val_c)
  | (with_reducible apply val_orV; (case ha => walk_at "v"); (case hb => walk_at "v"))
  | (with_reducible apply val_andV; (case ha => walk_at "v"); (case hb => walk_at "v"))
  | (with_reducible apply val_notV; walk_at "v")
  | (with_reducible apply val_ifS; (case h => walk_at "w"); (case ha => walk_at "v"); (case hb => walk_at "v"))
  | (with_reducible apply val_ifI; (case h => walk_at "w"); (case ha => walk_at "v"); (case hb => walk_at "v"))
  | (with_reducible apply val_ifB; (case h => walk_at "w"); (case ha => walk_at "v"); (case hb => walk_at "v"))
  | (with_reducible apply val_eqS; (case ha => walk_at "v"); (case hb => walk_at "v"))
  | (with_reducible apply val_eqI; (case ha => walk_at "v"); (case hb => walk_at "v"))
  | (with_reducible apply val_neS; (case ha => walk_at "v"); (case hb => walk_at "v"))
  | (with_reducible apply val_neI; (case ha => walk_at "v"); (case hb => walk_at "v"))
  | (with_reducible apply val_op; (case ha => walk_at "v"); (case hb => walk_at "v"); (case hr => exact fun Q q => ⟨_, _, rfl, rfl, q⟩)))
local macro_rules | `(tactic| walk_at "w") => `(tactic| first
  | (with_reducible apply ans_or2; (case h1 => walk_at "w"); (case h2 => walk_at "w"))
  | (with_reducible apply ans_and2; (case h1 => walk_at "w"); (case h2 => walk_at "w"))
  | (with_reducible apply ans_not; walk_at "w")
  | (with_reducible apply ans_test; walk_at "v")
  | (with_reducible apply ans_val; walk_at "v"))
local macro_rules | `(tactic| walk_at "s1") => `(tactic| first
  | (with_reducible refine go_c ?_)
  | (with_reducible apply go_pick; (case hs => walk_at "hp"); (case h0 => walk_at "cond"); (case h1 => walk_at "cond"); (case' q => intro k a b c h0 h1))
  | (with_reducible refine go_nil ?_)
  | (with_reducible refine go_cons ?_)
  | (with_reducible refine go_call ?_)
  | (with_reducible refine go_cb ?_)
  | (with_reducible refine go_next ?_)
  | (with_reducible refine go_cont ?_)
  | (with_reducible refine go_ret ?_)
  | (with_reducible refine go_name ?_)
  | (with_reducible refine go_seq ?_)
  | (with_reducible refine go_asg ?_)
  | (with_reducible apply go_or; (case h => walk_at "v"))
  | (with_reducible apply go_and; (case h => walk_at "v"))
  | (with_reducible apply go_andL; (case h => walk_at "v"); (case' h1 => intro e); (case' h2 => intro e))
  | (with_reducible apply go_orL; (case h => walk_at "v"); (case' h1 => intro e); (case' h2 => intro e))
  | (with_reducible apply go_ifE; (case h => walk_at "v"))
  | (with_reducible apply go_ifOr; (case h => walk_at "w"); (case' h1 => intro e); (case' h2 => intro e))
  | (with_reducible apply go_ifAnd; (case h => walk_at "w"); (case' h1 => intro e); (case' h2 => intro e))
  | (with_reducible refine go_min ?_)
  | refine ⟨_, rfl, ?_⟩
  | refine ⟨_, _, rfl, rfl, ?_⟩
  | (refine And.intro ?cc ?_; (case cc => walk_at "cond"))
  | refine ⟨_, _, _, _, rfl, rfl, by walk_at "sq", by walk_at "at", ?_⟩
  | refine ⟨_, _, _, _, rfl, rfl, by walk_at "hp", by walk_at "ix", ?_⟩
  | refine ⟨_, _, _, _, rfl, rfl, by walk_at "hp", by walk_at "hp", by walk_at "len", ?_⟩
  | refine ⟨_, _, _, rfl, rfl, by walk_at "len", by walk_at "at", ?_⟩
  | refine ⟨_, _, _, rfl, rfl, by walk_at "hp", by walk_at "len", ?_⟩
  | refine ⟨_, _, _, rfl, rfl, by walk_at "hp", by walk_at "at", ?_⟩
  | refine ⟨_, _, rfl, rfl, by walk_at "sq", ?_⟩
  | refine ⟨_, _, rfl, rfl, by walk_at "len", ?_⟩
  | refine ⟨_, _, rfl, by walk_at "sq", ?_⟩
  | refine ⟨_, _, rfl, .inl (by walk_at "sq"), ?_⟩
  | refine ⟨_, _, rfl, .inr (by walk_at "sq"), ?_⟩
  | refine ⟨_, _, rfl, by walk_at "sq", rfl, ?_⟩
  | refine ⟨_, fun _ _ h => h, ?_⟩
  | refine ⟨_, _, rfl, ?_⟩
  | refine .inl ⟨_, rfl, ?_⟩
  | refine ⟨_, _, .type "int", .type _, true, rfl, ClsV.ty _, .base (.int _), kit_ty (by decide +kernel), ?_⟩
  | refine ⟨_, _, .type "int", .type _, false, rfl, ClsV.ty _, .base (.int _), kit_ty (by decide +kernel), ?_⟩
  | refine ⟨_, _, .type "bool", .type _, true, rfl, ClsV.ty _, .base (.bl _), kit_ty (by decide +kernel), ?_⟩
  | refine ⟨_, _, .type "bool", .type _, false, rfl, ClsV.ty _, .base (.bl _), kit_ty (by decide +kernel), ?_⟩
  | refine ⟨_, _, .type "str", .type _, true, rfl, ClsV.ty _, .base (.str _), kit_ty (by decide +kernel), ?_⟩
  | refine ⟨_, _, .type "str", .type _, false, rfl, ClsV.ty _, .base (.str _), kit_ty (by decide +kernel), ?_⟩
  | refine ⟨_, _, .type "NoneType", .type _, true, rfl, ClsV.ty _, .base (.non), kit_ty (by decide +kernel), ?_⟩
  | refine ⟨_, _, .type "NoneType", .type _, false, rfl, ClsV.ty _, .base (.non), kit_ty (by decide +kernel), ?_⟩
  | refine ⟨_, _, .type "list", .type _, true, rfl, ClsV.ty _, .base (.lst (by walk_at "hp")), kit_ty (by decide +kernel), ?_⟩
  | refine ⟨_, _, .type "list", .type _, false, rfl, ClsV.ty _, .base (.lst (by walk_at "hp")), kit_ty (by decide +kernel), ?_⟩
  | refine ⟨_, _, .type "tuple", .type _, true, rfl, ClsV.ty _, .base (.tup (by walk_at "hp")), kit_ty (by decide +kernel), ?_⟩
  | refine ⟨_, _, .type "tuple", .type _, false, rfl, ClsV.ty _, .base (.tup (by walk_at "hp")), kit_ty (by decide +kernel), ?_⟩
  | (refine fun (p : Addr) (hp : _ = none) => ?_)
  | refine iteT ?_
  | refine iteF ?_
  | refine iteD (fun _ => ?_) (fun e => absurd rfl e)
  | refine iteS (fun e => ?_) (fun e => ?_)
  | refine iteI (fun e => ?_) (fun e => ?_)
  | refine iteSn (fun e => ?_) (fun e => ?_)
  | refine iteIn (fun e => ?_) (fun e => ?_)
  | refine iteD (fun e => ?_) (fun e => ?_)
  | refine iteDn (fun e => ?_) (fun e => ?_)
  | refine ite2 (fun e => ?_) (fun e => ?_))
local macro_rules | `(tactic| walk_at "s") => `(tactic| repeat' (first
  | (with_reducible refine go_c ?_)
  | (with_reducible apply go_pick; (case hs => walk_at "hp"); (case h0 => walk_at "cond"); (case h1 => walk_at "cond"); (case' q => intro k a b c h0 h1))
  | (with_reducible refine go_nil ?_)
  | (with_reducible refine go_cons ?_)
  | (with_reducible refine go_call ?_)
  | (with_reducible refine go_cb ?_)
  | (with_reducible refine go_next ?_)
  | (with_reducible refine go_cont ?_)
  | (with_reducible refine go_ret ?_)
  | (with_reducible refine go_name ?_)
  | (with_reducible refine go_seq ?_)
  | (with_reducible refine go_asg ?_)
  | (with_reducible apply go_or; (case h => walk_at "v"))
  | (with_reducible apply go_and; (case h => walk_at "v"))
  | (with_reducible apply go_andL; (case h => walk_at "v"); (case' h1 => intro e); (case' h2 => intro e))
  | (with_reducible apply go_orL; (case h => walk_at "v"); (case' h1 => intro e); (case' h2 => intro e))
  | (with_reducible apply go_ifE; (case h => walk_at "v"))
  | (with_reducible apply go_ifOr; (case h => walk_at "w"); (case' h1 => intro e); (case' h2 => intro e))
  | (with_reducible apply go_ifAnd; (case h => walk_at "w"); (case' h1 => intro e); (case' h2 => intro e))
  | (with_reducible refine go_min ?_)
  | refine ⟨_, rfl, ?_⟩
  | refine ⟨_, _, rfl, rfl, ?_⟩
  | (refine And.intro ?cc ?_; (case cc => walk_at "cond"))
  | refine ⟨_, _, _, _, rfl, rfl, by walk_at "sq", by walk_at "at", ?_⟩
  | refine ⟨_, _, _, _, rfl, rfl, by walk_at "hp", by walk_at "ix", ?_⟩
  | refine ⟨_, _, _, _, rfl, rfl, by walk_at "hp", by walk_at "hp", by walk_at "len", ?_⟩
  | refine ⟨_, _, _, rfl, rfl, by walk_at "len", by walk_at "at", ?_⟩
  | refine ⟨_, _, _, rfl, rfl, by walk_at "hp", by walk_at "len", ?_⟩
  | refine ⟨_, _, _, rfl, rfl, by walk_at "hp", by walk_at "at", ?_⟩
  | refine ⟨_, _, rfl, rfl, by walk_at "sq", ?_⟩
  | refine ⟨_, _, rfl, rfl, by walk_at "len", ?_⟩
  | refine ⟨_, _, rfl, by walk_at "sq", ?_⟩
  | refine ⟨_, _, rfl, .inl (by walk_at "sq"), ?_⟩
  | refine ⟨_, _, rfl, .inr (by walk_at "sq"), ?_⟩
  | refine ⟨_, _, rfl, by walk_at "sq", rfl, ?_⟩
  | refine ⟨_, fun _ _ h => h, ?_⟩
  | refine ⟨_, _, rfl, ?_⟩
  | refine .inl ⟨_, rfl, ?_⟩
  | refine ⟨_, _, .type "int", .type _, true, rfl, ClsV.ty _, .base (.int _), kit_ty (by decide +kernel), ?_⟩
  | refine ⟨_, _, .type "int", .type _, false, rfl, ClsV.ty _, .base (.int _), kit_ty (by decide +kernel), ?_⟩
  | refine ⟨_, _, .type "bool", .type _, true, rfl, ClsV.ty _, .base (.bl _), kit_ty (by decide +kernel), ?_⟩
  | refine ⟨_, _, .type "bool", .type _, false, rfl, ClsV.ty _, .base (.bl _), kit_ty (by decide +kernel), ?_⟩
  | refine ⟨_, _, .type "str", .type _, true, rfl, ClsV.ty _, .base (.str _), kit_ty (by decide +kernel), ?_⟩
  | refine ⟨_, _, .type "str", .type _, false, rfl, ClsV.ty _, .base (.str _), kit_ty (by decide +kernel), ?_⟩
  | refine ⟨_, _, .type "NoneType", .type _, true, rfl, ClsV.ty _, .base (.non), kit_ty (by decide +kernel), ?_⟩
  | refine ⟨_, _, .type "NoneType", .type _, false, rfl, ClsV.ty _, .base (.non), kit_ty (by decide +kernel), ?_⟩
  | refine ⟨_, _, .type "list", .type _, true, rfl, ClsV.ty _, .base (.lst (by walk_at "hp")), kit_ty (by decide +kernel), ?_⟩
  | refine ⟨_, _, .type "list", .type _, false, rfl, ClsV.ty _, .base (.lst (by walk_at "hp")), kit_ty (by decide +kernel), ?_⟩
  | refine ⟨_, _, .type "tuple", .type _, true, rfl, ClsV.ty _, .base (.tup (by walk_at "hp")), kit_ty (by decide +kernel), ?_⟩
  | refine ⟨_, _, .type "tuple", .type _, false, rfl, ClsV.ty _, .base (.tup (by walk_at "hp")), kit_ty (by decide +kernel), ?_⟩
  | (refine fun (p : Addr) (hp : _ = none) => ?_)
  | refine iteT ?_
  | refine iteF ?_
  | refine iteD (fun _ => ?_) (fun e => absurd rfl e)
  | refine iteS (fun e => ?_) (fun e => ?_)
  | refine iteI (fun e => ?_) (fun e => ?_)
  | refine iteSn (fun e => ?_) (fun e => ?_)
  | refine iteIn (fun e => ?_) (fun e => ?_)
  | refine iteD (fun e => ?_) (fun e => ?_)
  | refine iteDn (fun e => ?_) (fun e => ?_)
  | refine ite2 (fun e => ?_) (fun e => ?_)))

section
variable {P : Program} {w : World} {K : PySem.W.Frag} {mg : Str → Option Value} {base : Heap}
/-! ### the law's own flags -/
def spCMade (K : PySem.W.Frag) : Sp := fun vs H Q _ => ∃ (a k : Addr) (rs : List Rw) (ks : List Int), vs = [.ref a, .ref k] ∧ RowsT H a rs ∧ WF rs ∧ rs.length ≤ 20 ∧ Ints H k ks ∧
  ∀ (l : Addr) (H' : Hp), Same H H' → H l = none → H' l = some (.lst ((flags rs ks).map V.bl)) → Q (.ref l) H'
theorem ok_cmade (T : Top w K mg) : FnOk P w K mg base CX0 1 T.a_law_c_made T.d_law_c_made ["rows", "kept"] (spCMade K) := by
  refine T.F_law_c_made.ok sc_law_c_made (fun vs H Q E h => ?_) (fun cdv A outer s H vs Q E hr h => ?_)
  · obtain ⟨a, k, rs, ks, rfl, _⟩ := h
    rfl
  · obtain ⟨a, k, rs, ks, rfl, ⟨xs, hX, hE⟩, hW, hn, hk, q⟩ := h
    have hXl := hE.len
    refine ⟨_, (pss_cons (ps_set (i := 2) sc_law_c_made.nd rfl (.inr rfl) (pe_lst pa_nil))
    (pss_cons (ps_for PassesOwn.never rfl (pi_range1 rfl T.m_range (pa_cons (pe_callB call_len_seq (by rfl) T.m_len (by decide +kernel) (pa_cons (pv 0) pa_nil)) pa_nil)) (pg_name (i := 3) sc_law_c_made.nd rfl (.inl rfl))
    (pss_one (ps_expr (pe_bm PySem.F.plainAttrs_list PySem.F.slot_list_append PySem.F.type_list_append mt_append (pv 2) (pa_cons (pe_or (pe_cmpR op_in_seq (pv 3) (pv 1) (by rfl)) (pe_one (pe_and (pe_not (pe_ix ix_tup (pe_ix ix_list (pv 0) (pv 3) (fun _ _ => rfl)) pe_int (fun _ _ => rfl))) (pe_one (pe_callB (cr_all rfl) (by rfl) T.m_all (by decide +kernel) (pa_cons (pe_lc (own := [("operand", 4)]) rfl sc_law_c_made.nd (pi_tup (pe_ix ix_tup (pe_ix ix_list (pv 0) (pv 3) (fun _ _ => rfl)) pe_int (fun _ _ => rfl))) (blkOk_by (own := [("operand", 4)]) (N := ["rows", "kept", "flags", "node", "operand"]) (sc := defScope s_law_c_made) (by decide +kernel)) (fun _ _ _ _ _ => (pg_name (i := 4) sc_law_c_made.nd rfl (.inl rfl))) (fun _ _ _ _ _ => pts_nil) (fun _ _ _ _ _ => (pe_ix (ix_listB (K := K) rfl) (pv 2) (pv 4) (fun _ _ => rfl)))) pa_nil)))))) pa_nil)))))
    (pss_one (ps_ret (pv 2))))), ?_⟩
    walk_at "s"
    rename_i L hL
    refine for_range (lo := 0) (n := ((xs.length : Int)).toNat) (fun i σ H2 => ∃ v2 v4, σ = [some (.ref a), some (.ref k), some (.ref L), v2, v4] ∧ Same H H2 ∧ H2 L = some (.lst ((fl rs ks i).map V.bl))) ?_ ?_ ?_
    · exact ⟨_, _, rfl, same_new hL, upd_same⟩
    · intro i σ H2 hi hP
      obtain ⟨v2, v4, rfl, sm3, d2⟩ := hP
      have hi' : i < rs.length := by omega
      have er : rs[i]? = some rs[i] := List.getElem?_eq_getElem hi'
      obtain ⟨u, eu, t, o, rfl, ht, ho⟩ := hE.get er
      have hX2 := sm3 _ _ hX
      have hk2 := sm3 _ _ hk
      have ht2 := sm3 _ _ ht
      have ho2 : OpsT H2 o rs[i].ops := sm3 _ _ ho
      have hlen : (fl rs ks i).length = i := fl_len i (by omega)
      simp only [Int.zero_add]
      walk_at "s"
      refine ⟨flat_ints, ?_⟩
      rw [show (if false = true then !inV (V.int (i : Int)) (ks.map V.int) else inV (V.int (i : Int)) (ks.map V.int)) = inV (V.int (i : Int)) (ks.map V.int) from rfl, inV_int]
      refine ⟨_, rfl, ?_⟩
      by_cases e : (i : Int) ∈ ks
      · rw [decide_eq_true e]
        refine iteT ?_
        walk_at "s"
        refine ⟨same_mut sm3 hL, ?_⟩
        rw [upd_same, fl_succ er, List.map_append]
        unfold mk1
        rw [decide_eq_true e]
        rfl
      · rw [decide_eq_false e]
        refine iteF ?_
        walk_at "s"
        · rename_i es B hB
          have nLB : L ≠ B := ne_of_none d2 hB
          have nB : H B = none := sm3.free hB
          have h4 := (hW i _ er).2.2.2
          refine lc_tup (xs := rs[i].ops.map V.int) (fun j H3 => Same H2 H3 ∧ H3 B = some (.lst (((rs[i].ops.take j).map (flag (fl rs ks i))).map V.bl))) ?_ ?_ ?_ ?_
          · exact ⟨same_new hB, upd_same⟩
          · intro j H3 hj hP
            exact SqT.of (hP.1 _ _ ho2)
          · intro j x H3 hj hP
            obtain ⟨sm4, b1⟩ := hP
            obtain ⟨v, rfl, hv⟩ := map_get hj
            obtain ⟨v0, v1⟩ := (hW i _ er).2.1 v (List.mem_of_getElem? hv)
            have hjl := (List.getElem?_eq_some_iff.mp hv).1
            have b2 := sm4 _ _ d2
            walk_at "s"
            refine ⟨_, _, _, _, rfl, rfl, SqL.of b2, at_flag v0 (by rw [hlen]; exact v1), ?_⟩
            refine ⟨_, b1, sz_less (by simp only [List.length_map, List.length_take]; omega), same_mut sm4 hB, ?_⟩
            rw [upd_same, take_snoc hv, List.map_append, List.map_append]
            rfl
          · intro H3 hP
            obtain ⟨sm4, b1⟩ := hP
            rw [List.length_map, List.take_length] at b1
            have b2 := sm4 _ _ d2
            walk_at "s"
            refine ⟨same_mut (sm3.trans sm4) hL, ?_⟩
            rw [upd_same, fl_succ er, List.map_append, all_map]
            unfold mk1
            rw [decide_eq_false e, es]
            rfl
        · rename_i es
          have es : rs[i].src = true := by simpa using es
          refine ⟨same_mut sm3 hL, ?_⟩
          rw [upd_same, fl_succ er, List.map_append]
          unfold mk1
          rw [decide_eq_false e, es]
          rfl
    · intro σ H2 hP
      obtain ⟨v2, v4, rfl, sm3, d2⟩ := hP
      walk_at "s"
      rw [show ((xs.length : Int)).toNat = rs.length from by omega] at d2
      exact q L H2 sm3 hL d2
/-! ### the law's own way around -/
def spCWay (K : PySem.W.Frag) : Sp := fun vs H Q _ => ∃ (a k : Addr) (rs : List Rw) (ks : List Int) (v : Nat), vs = [.ref a, .ref k, .int v] ∧ RowsT H a rs ∧ WF rs ∧ rs.length ≤ 20 ∧ Ints H k ks ∧ v < rs.length ∧
  (flag (flags rs ks) v = true → ∀ H', Same H H' → Q .non H') ∧
  (flag (flags rs ks) v = false → ∀ (l : Addr) (H' : Hp) (ws : List Int), Way rs (flags rs ks) v ws → Same H H' → H l = none → Ints H' l ws.reverse → Q (.ref l) H')
theorem ok_cway (T : Top w K mg) : FnOk P w K mg base CX0 2 T.a_law_c_around T.d_law_c_around ["rows", "kept", "node"] (spCWay K) := by
  have G_law_c_made := ok_cmade (P := P) (w := w) (base := base) T
  refine T.F_law_c_around.ok sc_law_c_around (fun vs H Q E h => ?_) (fun cdv A outer s H vs Q E hr h => ?_)
  · obtain ⟨a, k, rs, ks, v, rfl, _⟩ := h
    rfl
  · obtain ⟨a, k, rs, ks, v, rfl, hR, hW, hn, hk, hv, q1, q2⟩ := h
    obtain ⟨xs, hX, hE⟩ := id hR
    refine ⟨_, (pss_cons (ps_set (i := 3) sc_law_c_around.nd rfl (.inr rfl) (pe_call G_law_c_made (hr.mono (by omega)) (by rfl) T.m_law_c_made T.F_law_c_made.kp T.b_law_c_made .nil pass0 (pa_cons (pv 0) (pa_cons (pv 1) pa_nil))))
    (pss_cons (ps_if (pt_val (pe_ix ix_list (pv 3) (pv 2) (fun _ _ => rfl)))
    (pss_one (ps_ret pe_non))
    pss_nil)
    (pss_cons (ps_set (i := 4) sc_law_c_around.nd rfl (.inl rfl) (pe_lst (pa_cons (pv 2) pa_nil)))
    (pss_cons (ps_for PassesOwn.never rfl (pi_range1 rfl T.m_range (pa_cons (pe_callB call_len_seq (by rfl) T.m_len (by decide +kernel) (pa_cons (pv 0) pa_nil)) pa_nil)) (pg_name (i := 5) sc_law_c_around.nd rfl (.inl rfl))
    (pss_one (ps_if (pt_not (pt_val (pe_ix ix_tup (pe_ix ix_list (pv 0) (pe_ix ix_list (pv 4) pe_int (fun _ _ => rfl)) (fun _ _ => rfl)) pe_int (fun _ _ => rfl))))
    (pss_one (ps_set (i := 4) sc_law_c_around.nd rfl (.inl rfl) (pe_op op_cat (pe_slice sl_list (pe_lc (own := [("operand", 6)]) rfl sc_law_c_around.nd (pi_tup (pe_ix ix_tup (pe_ix ix_list (pv 0) (pe_ix ix_list (pv 4) pe_int (fun _ _ => rfl)) (fun _ _ => rfl)) pe_int (fun _ _ => rfl))) (blkOk_by (own := [("operand", 6)]) (N := ["rows", "kept", "node", "flags", "way", "turn", "operand"]) (sc := defScope s_law_c_around) (by decide +kernel)) (fun _ _ _ _ _ => (pg_name (i := 6) sc_law_c_around.nd rfl (.inl rfl))) (fun _ _ _ _ _ => pts_one (pt_not (pt_val (pe_ix (ix_listB (K := K) rfl) (pv 3) (pv 6) (fun _ _ => rfl))))) (fun _ _ _ _ _ => (pv 6))) po_none (po_some pe_int)) (pv 4))))
    pss_nil)))
    (pss_one (ps_ret (pv 4))))))), ?_⟩
    walk_at "s"
    refine ⟨a, k, rs, ks, rfl, hR, hW, hn, hk, fun L H1 sm nL hL => ?_⟩
    have hX1 := sm _ _ hX
    have hXl := hE.len
    walk_at "s"
    refine ⟨_, _, _, _, rfl, rfl, SqL.of hL, at_flag (o := (v : Int)) (by omega) (by rw [flags_len]; omega), ?_⟩
    walk_at "s"
    · rename_i e
      exact q1 e H1 sm
    · rename_i e W hW0
      have e : flag (flags rs ks) v = false := by simpa using e
      refine for_range (lo := 0) (n := ((xs.length : Int)).toNat) (fun i σ H2 => ∃ (W2 : Addr) (pre : List Int) (c : Nat) (v5 v6 : Option V), σ = [some (.ref a), some (.ref k), some (.int v), some (.ref L), some (.ref W2), v5, v6] ∧ Same H1 H2 ∧ H1 W2 = none ∧ Ints H2 W2 ((c : Int) :: pre.reverse) ∧ c < rs.length ∧
        flag (flags rs ks) c = false ∧ pre.length ≤ i ∧ (∀ l, Way rs (flags rs ks) c l → Way rs (flags rs ks) v (pre ++ l)) ∧ (c + i ≤ v ∨ ∃ r, rs[c]? = some r ∧ r.src = true)) ?_ ?_ ?_
      · exact ⟨W, [], v, _, _, rfl, same_new hW0, hW0, upd_same, hv, e, by simp, fun l h => h, .inl (by omega)⟩
      · intro i σ H2 hi hP
        obtain ⟨W2, pre, c, v5, v6, rfl, sm2, nW2, hw, hc, ef, hlen, hway, hor⟩ := hP
        have er : rs[c]? = some rs[c] := List.getElem?_eq_getElem hc
        obtain ⟨u, eu, t, o, rfl, ht, ho⟩ := hE.get er
        have hX2 := sm2 _ _ hX1
        have ht2 := sm2 _ _ (sm _ _ ht)
        have ho2 : OpsT H2 o rs[c].ops := sm2 _ _ (sm _ _ ho)
        have hw2 : H2 W2 = some (.lst (V.int (c : Int) :: pre.reverse.map V.int)) := hw
        simp only [Int.zero_add]
        walk_at "s"
        · rename_i es B hB
          have es : rs[c].src = false := by simpa using es
          obtain ⟨o1, ho1, olt, of1, omem⟩ := bare_one hW er es ef
          have nWB : W2 ≠ B := ne_of_none hw2 hB
          have b0 := sm2 _ _ hL
          refine lc_tup (xs := rs[c].ops.map V.int) (fun j H3 => Same H2 H3 ∧ Ints H3 B (bare (flags rs ks) (rs[c].ops.take j))) ?_ ?_ ?_ ?_
          · exact ⟨same_new hB, upd_same⟩
          · intro j H3 hj hP
            exact SqT.of (hP.1 _ _ ho2)
          · intro j x H3 hj hP
            obtain ⟨sm4, b1⟩ := hP
            obtain ⟨z, rfl, hz⟩ := map_get hj
            obtain ⟨v0, v1⟩ := (hW c _ er).2.1 z (List.mem_of_getElem? hz)
            have hjl := (List.getElem?_eq_some_iff.mp hz).1
            have b2 := sm4 _ _ b0
            walk_at "s"
            refine ⟨_, _, _, _, rfl, rfl, SqL.of b2, at_flag v0 (by rw [flags_len]; omega), ?_⟩
            walk_at "s"
            · rename_i e1
              have h4 := (hW c _ er).2.2.2
              refine ⟨_, b1, ?_, same_mut sm4 hB, ?_⟩
              · have := bare_len (f := flags rs ks) (l := rs[c].ops.take j)
                rw [List.length_take] at this
                exact sz_less (by simp only [List.length_map]; omega)
              · show upd _ _ _ _ = _
                rw [upd_same, take_snoc hz, bare_yes e1, nums_snoc]
            · rename_i e1
              rw [take_snoc hz, bare_no e1]
              exact b1
          · intro H3 hP
            obtain ⟨sm4, b1⟩ := hP
            rw [List.length_map, List.take_length] at b1
            have b2 := sm4 _ _ hw2
            have ec : cutV ((bare (flags rs ks) rs[c].ops).map V.int) none (some 1) = [V.int (o1 : Int)] := by
              rw [show (1 : Int) = ((1 : Nat) : Int) from rfl, cut_take]
              cases hb : bare (flags rs ks) rs[c].ops with
              | nil =>
                rw [hb] at ho1
                cases ho1
              | cons x l =>
                rw [hb] at ho1
                cases ho1
                rfl
            walk_at "s"
            rename_i C hC
            rw [ec]
            have nWC : W2 ≠ C := ne_of_none b2 hC
            refine ⟨C, W2, _, _, rfl, rfl, upd_same, (upd_ne nWC).trans b2, sz_small ?_, fun F hF => ?_⟩
            · simp only [List.length_cons, List.length_nil, List.length_map, List.length_reverse]
              omega
            · walk_at "s"
              have nC : H1 C = none := sm2.free (sm4.free hC)
              have s5 : Same H1 (upd H3 C (.lst [V.int (o1 : Int)])) := (sm2.trans sm4).trans (same_new hC)
              have s6 := s5.trans (same_new (o := .lst ([V.int (o1 : Int)] ++ V.int (c : Int) :: pre.reverse.map V.int)) hF)
              refine ⟨F, pre ++ [(c : Int)], o1, _, _, rfl, s6, s5.free hF, ?_, by omega, of1, ?_, fun l hl => ?_, ?_⟩
              · show upd _ _ _ _ = _
                rw [upd_same, List.reverse_append]
                rfl
              · rw [List.length_append, List.length_singleton]
                omega
              · rw [List.append_assoc]
                exact hway _ (.step er es ho1 hl)
              · rcases hor with h | ⟨r, er2, es2⟩
                · left
                  omega
                · rw [er] at er2
                  cases er2
                  rw [es] at es2
                  cases es2
        · rename_i es
          have es : rs[c].src = true := by simpa using es
          exact ⟨W2, pre, c, _, _, rfl, sm2, nW2, hw, hc, ef, by omega, hway, .inr ⟨_, er, es⟩⟩
      · intro σ H2 hP
        obtain ⟨W2, pre, c, v5, v6, rfl, sm2, nW2, hw, hc, ef, hlen, hway, hor⟩ := hP
        walk_at "s"
        rcases hor with hor | ⟨r, er, es⟩
        · omega
        · refine q2 e W2 H2 _ (hway _ (.src er es)) (sm.trans sm2) (sm.free nW2) ?_
          rw [List.reverse_append]
          exact hw
end
end K17W
set_option Elab.async false
set_option linter.all false
set_option maxRecDepth 100000
set_option maxHeartbeats 4000000
namespace K17W
open PySem PySem.Spec PyProof.Rows L2 TL LW NT
local macro_rules | `(tactic| walk_at "ne") => `(tactic| first
  | assumption
  | exact Ne.symm (by assumption)
  | exact ne_of_none (by assumption) (by assumption)
  | exact (ne_of_none (by assumption) (by assumption)).symm
  | (apply ne_of_none; (case h' => assumption); (case h => walk_at "hp"))
  | (apply Ne.symm; apply ne_of_none; (case h' => assumption); (case h => walk_at "hp")))
local macro_rules | `(tactic| walk_at "hp") => `(tactic| first
  | assumption
  | exact upd_same
  | exact hp_new (by assumption) (by assumption)
  | (apply hp_new; (case n => assumption); (case h => walk_at "hp"))
  | (refine (upd_ne ?ne).trans ?hp; (case ne => walk_at "ne"); (case hp => walk_at "hp")))
local macro_rules | `(tactic| walk_at "sq") => `(tactic| first
  | ((with_reducible show SqL _ _ _ _); assumption)
  | ((with_reducible show SqT _ _ _ _); assumption)
  | exact SqL.of (by assumption)
  | exact SqL.of upd_same
  | exact SqT.of (by assumption)
  | exact SqT.of upd_same
  | (apply SqL.of; walk_at "hp")
  | (apply SqT.of; walk_at "hp"))
local macro_rules | `(tactic| walk_at "len") => `(tactic| first
  | assumption
  | exact sz_small (by omega)
  | exact sz_less (by omega)
  | decide
  | (refine sz_small ?_; simp only [List.length_append, List.length_cons, List.length_nil, List.length_map, str_len]; omega)
  | (refine sz_less ?_; simp only [List.length_append, List.length_cons, List.length_nil, List.length_map, str_len]; omega))
local macro_rules | `(tactic| walk_at "cond") => `(tactic| first
  | omega
  | (split <;> omega)
  | assumption
  | exact .inl ⟨by omega, by omega⟩
  | exact .inr ⟨by omega, by omega⟩
  | exact ⟨by omega, by omega⟩
  | (show (0 : Int) < _; omega)
  | (show (0 : Int) < _; decide +kernel)
  | exact ⟨by omega, by omega, by decide⟩
  | walk_at "len"
  | rfl
  | (show CMulW _ _; unfold CMulW; decide +kernel)
  | exact ⟨_, rfl⟩
  | decide +kernel
  | exact ⟨_, by walk_at "sq"⟩
  | exact .inl ⟨rfl, _, by walk_at "sq"⟩)
local macro_rules | `(tactic| walk_at "at") => `(tactic| first
  | assumption
  | exact atI_nat (by assumption)
  | exact atI_last _ _
  | exact atI_nat (j := 0) rfl
  | exact atI_nat (j := 1) rfl
  | exact atI_nat (j := 2) rfl
  | exact atI_nat (j := 3) rfl
  | exact atI_nat (j := 4) rfl)
local macro_rules | `(tactic| walk_at "ix") => `(tactic| first
  | assumption
  | (with_reducible exact ixN_0 (by simp; done))
  | (with_reducible exact ixN_1 (by simp; done))
  | (with_reducible exact ixN_2 (by simp; done))
  | (with_reducible exact Evl.ixN_nat (by assumption))
  | (with_reducible exact Evl.ixN_nat (by omega)))
local macro_rules | `(tactic| walk_at "v") => `(tactic| first
  | exact val_var rfl
  | (with_reducible exact val_c)
  | (with_reducible apply val_orV; (case ha => walk_at "v"); (case hb => walk_at "v"))
  | (with_reducible apply val_andV; (case ha => walk_at "v"); (case hb => walk_at "v"))
  | (with_reducible apply val_notV; walk_at "v")
  | (with_reducible apply val_ifS; (case h => walk_at "w"); (case ha => walk_at "v"); (case hb => walk_at "v"))
  | (with_reducible apply val_ifI; (case h => walk_at "w"); (case ha => walk_at "v"); (case hb => walk_at "v"))
  | (with_reducible apply val_ifB; (case h => walk_at "w"); (case ha => walk_at "v"); (case hb => walk_at "v"))
  | (with_reducible apply val_eqS; (case ha => walk_at "v"); (case hb => walk_at "v"))
  | (with_reducible apply val_eqI; (case ha => walk_at "v"); (case hb => walk_at "v"))
  | (with_reducible apply val_neS; (case ha => walk_at "v"); (case hb => walk_at "v"))
  | (with_reducible apply val_neI; (case ha => walk_at "v"); (case hb => walk_at "v"))
  | (with_reducible apply val_op; (case ha => walk_at "v"); (case hb => walk_at "v"); (case hr => exact fun Q q => ⟨_, _, rfl, rfl, q⟩)))
local macro_rules | `(tactic| walk_at "w") => `(tactic| first
  | (with_reducible apply ans_or2; (case h1 => walk_at "w"); (case h2 => walk_at "w"))
  | (with_reducible apply ans_and2; (case h1 => walk_at "w"); (case h2 => walk_at "w"))
  | (with_reducible apply ans_not; walk_at "w")
  | (with_reducible apply ans_test; walk_at "v")
  | (with_reducible apply ans_val; walk_at "v"))
local macro_rules | `(tactic| walk_at "s1") => `(tactic| first
  | (with_reducible refine go_c ?_)
  | (with_reducible apply go_pick; (case hs => walk_at "hp"); (case h0 => walk_at "cond"); (case h1 => walk_at "cond"); (case' q => intro k a b c h0 h1))
  | (with_reducible refine go_nil ?_)
  | (with_reducible refine go_cons ?_)
  | (with_reducible refine go_call ?_)
  | (with_reducible refine go_cb ?_)
  | (with_reducible refine go_next ?_)
  | (with_reducible refine go_cont ?_)
  | (with_reducible refine go_ret ?_)
  | (with_reducible refine go_name ?_)
  | (with_reducible refine go_seq ?_)
  | (with_reducible refine go_asg ?_)
  | (with_reducible apply go_or; (case h => walk_at "v"))
  | (with_reducible apply go_and; (case h => walk_at "v"))
  | (with_reducible apply go_andL; (case h => walk_at "v"); (case' h1 => intro e); (case' h2 => intro e))
  | (with_reducible apply go_orL; (case h => walk_at "v"); (case' h1 => intro e); (case' h2 => intro e))
  | (with_reducible apply go_ifE; (case h => walk_at "v"))
  | (with_reducible apply go_ifOr; (case h => walk_at "w"); (case' h1 => intro e); (case' h2 => intro e))
  | (with_reducible apply go_ifAnd; (case h => walk_at "w"); (case' h1 => intro e); (case' h2 => intro e))
  | (with_reducible refine go_min ?_)
  | refine ⟨_, rfl, ?_⟩
  | refine ⟨_, _, rfl, rfl, ?_⟩
  | (refine And.intro ?cc ?_; (case cc => walk_at "cond"))
  | refine ⟨_, _, _, _, rfl, rfl, by walk_at "sq", by walk_at "at", ?_⟩
  | refine ⟨_, _, _, _, rfl, rfl, by walk_at "hp", by walk_at "ix", ?_⟩
  | refine ⟨_, _, _, _, rfl, rfl, by walk_at "hp", by walk_at "hp", by walk_at "len", ?_⟩
  | refine ⟨_, _, _, rfl, rfl, by walk_at "len", by walk_at "at", ?_⟩
  | refine ⟨_, _, _, rfl, rfl, by walk_at "hp", by walk_at "len", ?_⟩
  | refine ⟨_, _, _, rfl, rfl, by walk_at "hp", by walk_at "at", ?_⟩
  | refine ⟨_, _, rfl, rfl, by walk_at "sq", ?_⟩
  | refine ⟨_, _, rfl, rfl, by walk_at "len", ?_⟩
  | refine ⟨_, _, rfl, by walk_at "sq", ?_⟩
  | refine ⟨_, _, rfl, .inl (by walk_at "sq"), ?_⟩
  | refine ⟨_, _, rfl, .inr (by walk_at "sq"), ?_⟩
  | refine ⟨_, _, rfl, by walk_at "sq", rfl, ?_⟩
  | refine ⟨_, fun _ _ h => h, ?_⟩
  | refine ⟨_, _, rfl, ?_⟩
  | refine .inl ⟨_, rfl, ?_⟩
  | refine ⟨_, _, .type "int", .type _, true, rfl, ClsV.ty _, .base (.int _), kit_ty (by decide +kernel), ?_⟩
  | refine ⟨_, _, .type "int", .type _, false, rfl, ClsV.ty _, .base (.int _), kit_ty (by decide +kernel), ?_⟩
  | refine ⟨_, _, .type "bool", .type _, true, rfl, ClsV.ty _, .base (.bl _), kit_ty (by decide +kernel), ?_⟩
  | refine ⟨_, _, .type "bool", .type _, false, rfl, ClsV.ty _, .base (.bl _), kit_ty (by decide +kernel), ?_⟩
  | refine ⟨_, _, .type "str", .type _, true, rfl, ClsV.ty _, .base (.str _), kit_ty (by decide +kernel), ?_⟩
  | refine ⟨_, _, .type "str", .type _, false, rfl, ClsV.ty _, .base (.str _), kit_ty (by decide +kernel), ?_⟩
  | refine ⟨_, _, .type "NoneType", .type _, true, rfl, ClsV.ty _, .base (.non), kit_ty (by decide +kernel), ?_⟩
  | refine ⟨_, _, .type "NoneType", .type _, false, rfl, ClsV.ty _, .base (.non), kit_ty (by decide +kernel), ?_⟩
  | refine ⟨_, _, .type "list", .type _, true, rfl, ClsV.ty _, .base (.lst (by walk_at "hp")), kit_ty (by decide +kernel), ?_⟩
  | refine ⟨_, _, .type "list", .type _, false, rfl, ClsV.ty _, .base (.lst (by walk_at "hp")), kit_ty (by decide +kernel), ?_⟩
  | refine ⟨_, _, .type "tuple", .type _, true, rfl, ClsV.ty _, .base (.tup (by walk_at "hp")), kit_ty (by decide +kernel), ?_⟩
  | refine ⟨_, _, .type "tuple", .type _, false, rfl, ClsV.ty _, .base (.tup (by walk_at "hp")), kit_ty (by decide +kernel), ?_⟩
  | (refine fun (p : Addr) (hp : _ = none) => ?_)
  | refine iteT ?_
  | refine iteF ?_
  | refine iteD (fun _ => ?_) (fun e => absurd rfl e)
  | refine iteS (fun e => ?_) (fun e => ?_)
  | refine iteI (fun e => ?_) (fun e => ?_)
  | refine iteSn (fun e => ?_) (fun e => ?_)
  | refine iteIn (fun e => ?_) (fun e => ?_)
  | refine iteD (fun e => ?_) (fun e => ?_)
  | refine iteDn (fun e => ?_) (fun e => ?_)
  | refine ite2 (fun e => ?_) (fun e => ?_))
local macro_rules | `(tactic| walk_at "s") => `(tactic| repeat' (first
  | (with_reducible refine go_c ?_)
  | (with_reducible apply go_pick; (case hs => walk_at "hp"); (case h0 => walk_at "cond"); (case h1 => walk_at "cond"); (case' q => intro k a b c h0 h1))
  | (with_reducible refine go_nil ?_)
  | (with_reducible refine go_cons ?_)
  | (with_reducible refine go_call ?_)
  | (with_reducible refine go_cb ?_)
  | (with_reducible refine go_next ?_)
  | (with_reducible refine go_cont ?_)
  | (with_reducible refine go_ret ?_)
  | (with_reducible refine go_name ?_)
  | (with_reducible refine go_seq ?_)
  | (with_reducible refine go_asg ?_)
  | (with_reducible apply go_or; (case h => walk_at "v"))
  | (with_reducible apply go_and; (case h => walk_at "v"))
  | (with_reducible apply go_andL; (case h => walk_at "v"); (case' h1 => intro e); (case' h2 => intro e))
  | (with_reducible apply go_orL; (case h => walk_at "v"); (case' h1 => intro e); (case' h2 => intro e))
  | (with_reducible apply go_ifE; (case h => walk_at "v"))
  | (with_reducible apply go_ifOr; (case h => walk_at "w"); (case' h1 => intro e); (case' h2 => intro e))
  | (with_reducible apply go_ifAnd; (case h => walk_at "w"); (case' h1 => intro e); (case' h2 => intro e))
  | (with_reducible refine go_min ?_)
  | refine ⟨_, rfl, ?_⟩
  | refine ⟨_, _, rfl, rfl, ?_⟩
  | (refine And.intro ?cc ?_; (case cc => walk_at "cond"))
  | refine ⟨_, _, _, _, rfl, rfl, by walk_at "sq", by walk_at "at", ?_⟩
  | refine ⟨_, _, _, _, rfl, rfl, by walk_at "hp", by walk_at "ix", ?_⟩
  | refine ⟨_, _, _, _, rfl, rfl, by walk_at "hp", by walk_at "hp", by walk_at "len", ?_⟩
  | refine ⟨_, _, _, rfl, rfl, by walk_at "len", by walk_at "at", ?_⟩
  | refine ⟨_, _, _, rfl, rfl, by walk_at "hp", by walk_at "len", ?_⟩
  | refine ⟨_, _, _, rfl, rfl, by walk_at "hp", by walk_at "at", ?_⟩
  | refine ⟨_, _, rfl, rfl, by walk_at "sq", ?_⟩
  | refine ⟨_, _, rfl, rfl, by walk_at "len", ?_⟩
  | refine ⟨_, _, rfl, by walk_at "sq", ?_⟩
  | refine ⟨_, _, rfl, .inl (by walk_at "sq"), ?_⟩
  | refine ⟨_, _, rfl, .inr (by walk_at "sq"), ?_⟩
  | refine ⟨_, _, rfl, by walk_at "sq", rfl, ?_⟩
  | refine ⟨_, fun _ _ h => h, ?_⟩
  | refine ⟨_, _, rfl, ?_⟩
  | refine .inl ⟨_, rfl, ?_⟩
  | refine ⟨_, _, .type "int", .type _, true, rfl, ClsV.ty _, .base (.int _), kit_ty (by decide +kernel), ?_⟩
  | refine ⟨_, _, .type "int", .type _, false, rfl, ClsV.ty _, .base (.int _), kit_ty (by decide +kernel), ?_⟩
  | refine ⟨_, _, .type "bool", .type _, true, rfl, ClsV.ty _, .base (.bl _), kit_ty (by decide +kernel), ?_⟩
  | refine ⟨_, _, .type "bool", .type _, false, rfl, ClsV.ty _, .base (.bl _), kit_ty (by decide +kernel), ?_⟩
  | refine ⟨_, _, .type "str", .type _, true, rfl, ClsV.ty _, .base (.str _), kit_ty (by decide +kernel), ?_⟩
  | refine ⟨_, _, .type "str", .type _, false, rfl, ClsV.ty _, .base (.str _), kit_ty (by decide +kernel), ?_⟩
  | refine ⟨_, _, .type "NoneType", .type _, true, rfl, ClsV.ty _, .base (.non), kit_ty (by decide +kernel), ?_⟩
  | refine ⟨_, _, .type "NoneType", .type _, false, rfl, ClsV.ty _, .base (.non), kit_ty (by decide +kernel), ?_⟩
  | refine ⟨_, _, .type "list", .type _, true, rfl, ClsV.ty _, .base (.lst (by walk_at "hp")), kit_ty (by decide +kernel), ?_⟩
  | refine ⟨_, _, .type "list", .type _, false, rfl, ClsV.ty _, .base (.lst (by walk_at "hp")), kit_ty (by decide +kernel), ?_⟩
  | refine ⟨_, _, .type "tuple", .type _, true, rfl, ClsV.ty _, .base (.tup (by walk_at "hp")), kit_ty (by decide +kernel), ?_⟩
  | refine ⟨_, _, .type "tuple", .type _, false, rfl, ClsV.ty _, .base (.tup (by walk_at "hp")), kit_ty (by decide +kernel), ?_⟩
  | (refine fun (p : Addr) (hp : _ = none) => ?_)
  | refine iteT ?_
  | refine iteF ?_
  | refine iteD (fun _ => ?_) (fun e => absurd rfl e)
  | refine iteS (fun e => ?_) (fun e => ?_)
  | refine iteI (fun e => ?_) (fun e => ?_)
  | refine iteSn (fun e => ?_) (fun e => ?_)
  | refine iteIn (fun e => ?_) (fun e => ?_)
  | refine iteD (fun e => ?_) (fun e => ?_)
  | refine iteDn (fun e => ?_) (fun e => ?_)
  | refine ite2 (fun e => ?_) (fun e => ?_)))

section
variable {P : Program} {w : World} {K : PySem.W.Frag} {mg : Str → Option Value} {base : Heap}
/-- a source of digits -/
def Src (H : Hp) (s : Addr) : Prop := ∃ a b c : Int, H s = some (.lst [.int a, .int b, .int c])
/-! ### a drawn net -/
def spNet : Sp := fun vs H Q _ => ∃ (s : Addr) (many : Int), vs = [.ref s, .int many] ∧ Src H s ∧ 0 < many ∧ many ≤ 20 ∧
  ∀ (r : Addr) (H' : Hp) (rs : List Rw), But s H H' → H r = none → Src H' s → RowsT H' r rs → WF rs → (rs.length : Int) = many → Q (.ref r) H'
theorem ok_net (T : Top w K mg) : FnOk P w K mg base CX0 2 T.a_law_c_net T.d_law_c_net ["source", "many"] spNet := by
  have G_law_pick := ok_pick (P := P) (w := w) (base := base) T
  refine T.F_law_c_net.ok sc_law_c_net (fun vs H Q E h => ?_) (fun cdv A outer s H vs Q E hr h => ?_)
  · obtain ⟨s, many, rfl, _⟩ := h
    rfl
  · obtain ⟨s, many, rfl, hs, m0, m1, q⟩ := h
    obtain ⟨a0, b0, c0, hs⟩ := hs
    refine ⟨_, (pss_cons (ps_set (i := 2) sc_law_c_net.nd rfl (.inl rfl) (pe_lst pa_nil))
    (pss_cons (ps_for PassesOwn.never rfl (pi_range1 rfl T.m_range (pa_cons (pv 1) pa_nil)) (pg_name (i := 3) sc_law_c_net.nd rfl (.inl rfl))
    (Evl.pss_cut (ps_set (i := 4) sc_law_c_net.nd rfl (.inl rfl) (pe_op op_add pe_int (pe_ix ix_list (pe_lst (pa_cons pe_int (pa_cons pe_int (pa_cons pe_int (pa_cons pe_int (pa_cons pe_int pa_nil)))))) (pe_call G_law_pick (hr.mono (by omega)) (by rfl) T.m_law_pick T.F_law_pick.kp T.b_law_pick .nil pass0 (pa_cons (pv 0) (pa_cons pe_int pa_nil))) (fun _ _ => rfl))))
    (Evl.pss_cut (ps_set (i := 5) sc_law_c_net.nd rfl (.inl rfl) (pe_ifExp (pt_cmpR op_lt (pv 3) pe_int (nomark _)) pe_int (pe_call G_law_pick (hr.mono (by omega)) (by rfl) T.m_law_pick T.F_law_pick.kp T.b_law_pick .nil pass0 (pa_cons (pv 0) (pa_cons pe_int pa_nil)))))
    (Evl.pss_cut (ps_set (i := 6) sc_law_c_net.nd rfl (.inl rfl) (pe_ifExp (pt_cmpR op_gt (pv 3) pe_int (nomark _)) (pe_op op_sub (pe_op op_sub (pv 3) pe_int) (pe_call G_law_pick (hr.mono (by omega)) (by rfl) T.m_law_pick T.F_law_pick.kp T.b_law_pick .nil pass0 (pa_cons (pv 0) (pa_cons (pe_callB (call_min2 rfl) (by rfl) T.m_min (by decide +kernel) (pa_cons (pv 3) (pa_cons pe_int pa_nil))) pa_nil)))) pe_int))
    (pss_one (ps_if (pt_cmpR op_lt (pv 5) pe_int (nomark _))
    (pss_one (ps_expr (pe_bm PySem.F.plainAttrs_list PySem.F.slot_list_append PySem.F.type_list_append mt_append (pv 2) (pa_cons (pe_tup (pa_cons (pv 4) (pa_cons (pe_tup pa_nil) (pa_cons (pe_cmpR op_gt (pe_call G_law_pick (hr.mono (by omega)) (by rfl) T.m_law_pick T.F_law_pick.kp T.b_law_pick .nil pass0 (pa_cons (pv 0) (pa_cons pe_int pa_nil))) pe_int (nomark _)) pa_nil)))) pa_nil))))
    (pss_one (ps_if (pt_cmpR op_lt (pv 5) pe_int (nomark _))
    (pss_one (ps_expr (pe_bm PySem.F.plainAttrs_list PySem.F.slot_list_append PySem.F.type_list_append mt_append (pv 2) (pa_cons (pe_tup (pa_cons (pe_ix ix_tup (pe_ix ix_list (pv 2) (pv 6) (fun _ _ => rfl)) pe_int (fun _ _ => rfl)) (pa_cons (pe_tup (pa_cons (pv 6) pa_nil)) (pa_cons pe_bl pa_nil)))) pa_nil))))
    (pss_cons (ps_set (i := 7) sc_law_c_net.nd rfl (.inl rfl) (pe_lst (pa_cons (pv 6) pa_nil)))
    (pss_cons (ps_for PassesOwn.never rfl (pi_range1 rfl T.m_range (pa_cons (pe_ix ix_list (pe_lst (pa_cons pe_int (pa_cons pe_int (pa_cons pe_int (pa_cons pe_int (pa_cons pe_int pa_nil)))))) (pe_call G_law_pick (hr.mono (by omega)) (by rfl) T.m_law_pick T.F_law_pick.kp T.b_law_pick .nil pass0 (pa_cons (pv 0) (pa_cons pe_int pa_nil))) (fun _ _ => rfl)) pa_nil)) (pg_name (i := 8) sc_law_c_net.nd rfl (.inl rfl))
    (pss_one (ps_expr (pe_bm PySem.F.plainAttrs_list PySem.F.slot_list_append PySem.F.type_list_append mt_append (pv 7) (pa_cons (pe_call G_law_pick (hr.mono (by omega)) (by rfl) T.m_law_pick T.F_law_pick.kp T.b_law_pick .nil pass0 (pa_cons (pv 0) (pa_cons (pv 3) pa_nil))) pa_nil)))))
    (pss_one (ps_expr (pe_bm PySem.F.plainAttrs_list PySem.F.slot_list_append PySem.F.type_list_append mt_append (pv 2) (pa_cons (pe_tup (pa_cons (pv 4) (pa_cons (pe_callTy call_tuple_of (by rfl) T.m_tuple (by decide +kernel) (pa_cons (pv 7) pa_nil)) (pa_cons pe_bl pa_nil)))) pa_nil))))))))))))))
    (pss_one (ps_ret (pv 2))))), ?_⟩
    walk_at "s"
    rename_i R hR
    have nsR : s ≠ R := ne_of_none hs hR
    refine for_range (lo := 0) (n := many.toNat) (fun i σ H2 => ∃ (v3 v4 v5 v6 v7 v8 : Option V) (a b c : Int) (ys : List V) (rs : List Rw), σ = [some (.ref s), some (.int many), some (.ref R), v3, v4, v5, v6, v7, v8] ∧ But s H H2 ∧ H2 s = some (.lst [.int a, .int b, .int c]) ∧
      H2 R = some (.lst ys) ∧ Each (RowT H2) ys rs ∧ WF rs ∧ rs.length = i) ?_ ?_ ?_
    · exact ⟨_, _, _, _, _, _, a0, b0, c0, [], [], rfl, .of (same_new hR), by walk_at "hp", upd_same, .nil, .nil, rfl⟩
    · intro i σ H2 hi hP
      obtain ⟨v3, v4, v5, v6, v7, v8, a, b, c, ys, rs, rfl, but, h1, h2, h3, h4, h5⟩ := hP
      have hyl := h3.len
      simp only [Int.zero_add]
      have hX2 : s ≠ R := nsR
      walk_at "s"
      refine ⟨fun σ' H' => ∃ (z a b c : Int), σ' = [some (.ref s), some (.int many), some (.ref R), some (.int i), some (.int z), v5, v6, v7, v8] ∧ But s H2 H' ∧ H' s = some (.lst [.int a, .int b, .int c]) ∧ 1 ≤ z ∧ z ≤ 3, ?_, fun σ' H' hM => ?_⟩
      · walk_at "s"
        rename_i L hL k a1 b1 c1 k0 k1
        have nsL : s ≠ L := ne_of_none h1 hL
        obtain ⟨v, hv, hat⟩ := pick_at (l := [0, 0, 0, 1, 2]) k0 k1
        have hv := mem02 hv
        refine ⟨_, _, _, _, rfl, rfl, SqL.of ((upd_ne nsL.symm).trans upd_same), hat, ?_⟩
        walk_at "s"
        exact ⟨_, _, _, _, rfl, (But.of (same_new hL)).trans But.upd, upd_same, by omega, by omega⟩
      obtain ⟨z, a, b, c, rfl, but1, h1, hz, hz3⟩ := hM
      refine ⟨fun σ' H'' => ∃ (k a b c : Int), σ' = [some (.ref s), some (.int many), some (.ref R), some (.int i), some (.int z), some (.int k), v6, v7, v8] ∧ But s H2 H'' ∧ H'' s = some (.lst [.int a, .int b, .int c]) ∧ ((i : Int) < 2 → k = 0), ?_, fun σ' H'' hM => ?_⟩
      · walk_at "s"
        · exact ⟨0, _, _, _, rfl, but1, h1, fun _ => rfl⟩
        · rename_i e k a1 b1 c1 k0 k1
          exact ⟨k, _, _, _, rfl, but1.trans But.upd, upd_same, fun h => absurd h e⟩
      obtain ⟨k, a, b, c, rfl, but2, h1, hk⟩ := hM
      refine ⟨fun σ' H'' => ∃ (r a b c : Int), σ' = [some (.ref s), some (.int many), some (.ref R), some (.int i), some (.int z), some (.int k), some (.int r), v7, v8] ∧ But s H2 H'' ∧ H'' s = some (.lst [.int a, .int b, .int c]) ∧ (0 < i → 0 ≤ r ∧ r < i), ?_, fun σ' H'' hM => ?_⟩
      · walk_at "s"
        · rename_i e k2 a1 b1 c1 k0 k1
          exact ⟨_, _, _, _, rfl, but2.trans But.upd, upd_same, fun _ => by split at k1 <;> omega⟩
        · rename_i e
          exact ⟨0, _, _, _, rfl, but2, h1, fun h => by omega⟩
      obtain ⟨r, a, b, c, rfl, but3, h1, hr'⟩ := hM
      have h2' := but3 _ _ nsR.symm h2
      have h3' := h3.mono fun _ _ => RowT.ts (Ts.but but3 ‹_›)
      walk_at "s"
      · rename_i e O hO kk a1 b1 c1 k0 k1 t ht
        have hO2 : upd (upd H'' O (.tup [])) s (.lst [.int a1, .int b1, .int c1]) O = some (.tup []) := (upd_ne (ne_of_none h1 hO).symm).trans upd_same
        have t1 : Ts H'' (upd (upd (upd H'' O (.tup [])) s (.lst [.int a1, .int b1, .int c1])) t (.tup [.int z, .ref O, .bl (decide (0 < kk))])) :=
          ((Ts.of (same_new hO)).trans (Ts.upd (by walk_at "hp"))).trans (Ts.of (same_new ht))
        have nRt : R ≠ t := ne_of_none (by walk_at "hp") ht
        have nRO : R ≠ O := ne_of_none h2' hO
        have ntO : O ≠ t := ne_of_none hO2 ht
        refine ⟨_, _, _, _, _, _, _, _, _, _, rs ++ [⟨z, [], decide (0 < kk)⟩], rfl, but_mut ((((but.trans but3).trans' (same_new hO)).trans But.upd).trans' (same_new ht)) hR, by walk_at "hp", upd_same, ?_, ?_, by simp [h5]⟩
        · refine (h3'.mono fun _ _ => RowT.ts (t1.trans (Ts.upd (by walk_at "hp")))).snoc ⟨t, O, rfl, ?_, ?_⟩
          · exact (upd_ne nRt.symm).trans upd_same
          · show _ = _
            exact (upd_ne nRO.symm).trans ((upd_ne ntO).trans hO2)
        · exact h4.snoc ⟨hz, by simp, by simp, by show 0 + 10 * z.toNat ≤ 34; omega⟩
      · rename_i e1 e2
        have hi0 : 0 < i := by
          rcases Nat.lt_or_ge i 2 with h | h
          · have := hk (by omega)
            omega
          · omega
        obtain ⟨r0, r1⟩ := hr' hi0
        have hrl : r.toNat < rs.length := by omega
        have er : rs[r.toNat]? = some rs[r.toNat] := List.getElem?_eq_getElem hrl
        obtain ⟨u, eu, t0, o0, rfl, ht0, ho0⟩ := h3'.get er
        have hat : atI ys r = some (.ref t0) := by
          rw [show r = ((r.toNat : Nat) : Int) from by omega]
          exact atI_nat eu
        refine ⟨_, _, _, _, rfl, rfl, SqL.of h2', hat, ?_⟩
        walk_at "s"
        rename_i O hO t ht
        have hO2 : upd H'' O (.tup [.int r]) O = some (.tup [.int r]) := upd_same
        have t1 : Ts H'' (upd (upd H'' O (.tup [.int r])) t (.tup [.int rs[r.toNat].sz, .ref O, .bl false])) := (Ts.of (same_new hO)).trans (Ts.of (same_new ht))
        have nRt : R ≠ t := ne_of_none (by walk_at "hp") ht
        have nRO : R ≠ O := ne_of_none h2' hO
        have ntO : O ≠ t := ne_of_none hO2 ht
        refine ⟨_, _, _, _, _, _, _, _, _, _, rs ++ [⟨rs[r.toNat].sz, [r], false⟩], rfl, but_mut ((((but.trans but3).trans' (same_new hO))).trans' (same_new ht)) hR, by walk_at "hp", upd_same, ?_, ?_, by simp [h5]⟩
        · refine (h3'.mono fun _ _ => RowT.ts (t1.trans (Ts.upd (by walk_at "hp")))).snoc ⟨t, O, rfl, ?_, ?_⟩
          · exact (upd_ne nRt.symm).trans upd_same
          · show _ = _
            exact (upd_ne nRO.symm).trans ((upd_ne ntO).trans hO2)
        · exact h4.snoc ⟨(h4 _ _ er).1, by simp; omega, by simp, by have := (h4 _ _ er).sz3; show 1 + 10 * rs[r.toNat].sz.toNat ≤ 34; omega⟩
      · rename_i e1 e2 P0 hP0 L hL kk a1 b1 c1 k0 k1
        have hi0 : 2 ≤ i := by
          rcases Nat.lt_or_ge i 2 with h | h
          · have := hk (by omega)
            omega
          · omega
        obtain ⟨r0, r1⟩ := hr' (by omega)
        have nsP : s ≠ P0 := ne_of_none h1 hP0
        have nsL : s ≠ L := ne_of_none (by walk_at "hp") hL
        have nPL : P0 ≠ L := ne_of_none upd_same hL
        have nRP : R ≠ P0 := ne_of_none h2' hP0
        have nRL : R ≠ L := ne_of_none (by walk_at "hp") hL
        obtain ⟨v, hv, hat⟩ := pick_at (l := [0, 1, 1, 1, 2]) k0 k1
        have hv := mem12 hv
        refine ⟨_, _, _, _, rfl, rfl, SqL.of ((upd_ne nsL.symm).trans upd_same), hat, ?_⟩
        walk_at "s"
        have nHP : H P0 = none := (but.trans but3).free nsP.symm hP0
        refine for_range (lo := 0) (n := v.toNat) (fun j σ H3 => ∃ (v8 : Option V) (a b c : Int) (ops : List Int), σ = [some (.ref s), some (.int many), some (.ref R), some (.int i), some (.int z), some (.int k), some (.int r), some (.ref P0), v8] ∧ But s H H3 ∧ Ts H'' H3 ∧
          H3 s = some (.lst [.int a, .int b, .int c]) ∧ H3 R = some (.lst ys) ∧ Ints H3 P0 ops ∧ ops.length = j + 1 ∧ ∀ o ∈ ops, 0 ≤ o ∧ o < (i : Int)) ?_ ?_ ?_
        · exact ⟨_, a1, b1, c1, [r], rfl, (((but.trans but3).trans' (same_new hP0)).trans' (same_new hL)).trans But.upd, ((Ts.of (same_new hP0)).trans (Ts.of (same_new hL))).trans (Ts.upd (by walk_at "hp")), upd_same, by walk_at "hp", by
            show _ = _
            exact (upd_ne nsP.symm).trans ((upd_ne nPL).trans upd_same), rfl, by simp; omega⟩
        · intro j σ H3 hj hP
          obtain ⟨v8, a2, b2, c2, ops, rfl, bu, ts, g1, g2, g3, g4, g5⟩ := hP
          simp only [Int.zero_add]
          have hz0 : (ops.map V.int).length ≤ 20 := by
            rw [List.length_map]
            omega
          have g3' : H3 P0 = some (.lst (ops.map V.int)) := g3
          walk_at "s"
          rename_i k3 a3 b3 c3 y0 y1
          refine ⟨_, a3, b3, c3, ops ++ [k3], rfl, but_mut (bu.trans But.upd) nHP, (ts.trans (Ts.upd g1)).trans (Ts.upd ((upd_ne nsP.symm).trans g3')), (upd_ne nsP).trans upd_same, (upd_ne nRP).trans ((upd_ne nsR.symm).trans g2), ?_, by simp [g4], ?_⟩
          · show upd _ _ _ _ = _
            rw [upd_same, nums_snoc]
          · intro o ho
            rcases List.mem_append.mp ho with ho | ho
            · exact g5 o ho
            · rw [List.mem_singleton] at ho
              subst ho
              exact ⟨y0, y1⟩
        · intro σ H3 hP
          obtain ⟨v8, a2, b2, c2, ops, rfl, bu, ts, g1, g2, g3, g4, g5⟩ := hP
          have g3' : H3 P0 = some (.lst (ops.map V.int)) := g3
          walk_at "s"
          refine ⟨P0, _, rfl, .inl ⟨SqL.of g3', fun O hO => ?_⟩⟩
          walk_at "s"
          rename_i t ht
          have hO2 : upd H3 O (.tup (ops.map V.int)) O = some (.tup (ops.map V.int)) := upd_same
          have t1 : Ts H'' (upd (upd H3 O (.tup (ops.map V.int))) t (.tup [.int z, .ref O, .bl false])) := (ts.trans (Ts.of (same_new hO))).trans (Ts.of (same_new ht))
          have nRO : R ≠ O := ne_of_none g2 hO
          have nRt : R ≠ t := ne_of_none ((upd_ne nRO).trans g2) ht
          have ntO : O ≠ t := ne_of_none hO2 ht
          have nsO : s ≠ O := ne_of_none g1 hO
          have nst : s ≠ t := ne_of_none ((upd_ne nsO).trans g1) ht
          refine ⟨_, _, _, _, _, _, _, _, _, _, rs ++ [⟨z, ops, false⟩], rfl, but_mut ((bu.trans' (same_new hO)).trans' (same_new ht)) hR, (upd_ne nsR).trans ((upd_ne nst).trans ((upd_ne nsO).trans g1)), upd_same, ?_, ?_, by simp [h5]⟩
          · refine (h3'.mono fun _ _ => RowT.ts (t1.trans (Ts.upd ((upd_ne nRt).trans ((upd_ne nRO).trans g2))))).snoc ⟨t, O, rfl, ?_, ?_⟩
            · exact (upd_ne nRt.symm).trans upd_same
            · show _ = _
              exact (upd_ne nRO.symm).trans ((upd_ne ntO).trans hO2)
          · exact h4.snoc ⟨hz, by rw [h5]; exact g5, by simp, by show ops.length + 10 * z.toNat ≤ 34; rw [g4]; omega⟩
    · intro σ H2 hP
      obtain ⟨v3, v4, v5, v6, v7, v8, a, b, c, ys, rs, rfl, but, h1, h2, h3, h4, h5⟩ := hP
      walk_at "s"
      exact q R H2 rs but hR ⟨a, b, c, h1⟩ ⟨ys, h2, h3⟩ h4 (by omega)
end
end K17W
set_option Elab.async false
set_option linter.all false
set_option maxRecDepth 100000
set_option maxHeartbeats 4000000
namespace K17W
open PySem PySem.Spec PyProof.Rows L2 TL LW NT
local macro_rules | `(tactic| walk_at "ne") => `(tactic| first
  | assumption
  | exact Ne.symm (by assumption)
  | exact ne_of_none (by assumption) (by assumption)
  | exact (ne_of_none (by assumption) (by assumption)).symm
  | (apply ne_of_none; (case h' => assumption); (case h => walk_at "hp"))
  | (apply Ne.symm; apply ne_of_none; (case h' => assumption); (case h => walk_at "hp")))
local macro_rules | `(tactic| walk_at "hp") => `(tactic| first
  | assumption
  | exact upd_same
  | exact hp_new (by assumption) (by assumption)
  | (apply hp_new; (case n => assumption); (case h => walk_at "hp"))
  | (refine (upd_ne ?ne).trans ?hp; (case ne => walk_at "ne"); (case hp => walk_at "hp")))
local macro_rules | `(tactic| walk_at "sq") => `(tactic| first
  | ((with_reducible show SqL _ _ _ _); assumption)
  | ((with_reducible show SqT _ _ _ _); assumption)
  | exact SqL.of (by assumption)
  | exact SqL.of upd_same
  | exact SqT.of (by assumption)
  | exact SqT.of upd_same
  | (apply SqL.of; walk_at "hp")
  | (apply SqT.of; walk_at "hp"))
local macro_rules | `(tactic| walk_at "len") => `(tactic| first
  | assumption
  | exact sz_small (by omega)
  | exact sz_less (by omega)
  | decide
  | (refine sz_small ?_; simp only [List.length_append, List.length_cons, List.length_nil, List.length_map, str_len]; omega)
  | (refine sz_less ?_; simp only [List.length_append, List.length_cons, List.length_nil, List.length_map, str_len]; omega))
local macro_rules | `(tactic| walk_at "cond") => `(tactic| first
  | omega
  | (split <;> omega)
  | assumption
  | exact .inl ⟨by omega, by omega⟩
  | exact .inr ⟨by omega, by omega⟩
  | exact ⟨by omega, by omega⟩
  | (show (0 : Int) < _; omega)
  | (show (0 : Int) < _; decide +kernel)
  | exact ⟨by omega, by omega, by decide⟩
  | walk_at "len"
  | rfl
  | (show CMulW _ _; unfold CMulW; decide +kernel)
  | exact ⟨_, rfl⟩
  | decide +kernel
  | exact ⟨_, by walk_at "sq"⟩
  | exact .inl ⟨rfl, _, by walk_at "sq"⟩)
local macro_rules | `(tactic| walk_at "at") => `(tactic| first
  | assumption
  | exact atI_nat (by assumption)
  | exact atI_last _ _
  | exact atI_nat (j := 0) rfl
  | exact atI_nat (j := 1) rfl
  | exact atI_nat (j := 2) rfl
  | exact atI_nat (j := 3) rfl
  | exact atI_nat (j := 4) rfl)
local macro_rules | `(tactic| walk_at "ix") => `(tactic| first
  | assumption
  | (with_reducible exact ixN_0 (by simp; done))
  | (with_reducible exact ixN_1 (by simp; done))
  | (with_reducible exact ixN_2 (by simp; done))
  | (with_reducible exact Evl.ixN_nat (by assumption))
  | (with_reducible exact Evl.ixN_nat (by omega)))
local macro_rules | `(tactic| walk_at "v") => `(tactic| first
  | exact val_var rfl
  | (with_reducible exact val_c)
  | (with_reducible apply val_orV; (case ha => walk_at "v"); (case hb => walk_at "v"))
  | (with_reducible apply val_andV; (case ha => walk_at "v"); (case hb => walk_at "v"))
  | (with_reducible apply val_notV; walk_at "v")
  | (with_reducible apply val_ifS; (case h => walk_at "w"); (case ha => walk_at "v"); (case hb => walk_at "v"))
  | (with_reducible apply val_ifI; (case h => walk_at "w"); (case ha => walk_at "v"); (case hb => walk_at "v"))
  | (with_reducible apply val_ifB; (case h => walk_at "w"); (case ha => walk_at "v"); (case hb => walk_at "v"))
  | (with_reducible apply val_eqS; (case ha => walk_at "v"); (case hb => walk_at "v"))
  | (with_reducible apply val_eqI; (case ha => walk_at "v"); (case hb => walk_at "v"))
  | (with_reducible apply val_neS; (case ha => walk_at "v"); (case hb => walk_at "v"))
  | (with_reducible apply val_neI; (case ha => walk_at "v"); (case hb => walk_at "v"))
  | (with_reducible apply val_op; (case ha => walk_at "v"); (case hb => walk_at "v"); (case hr => exact fun Q q => ⟨_, _, rfl, rfl, q⟩)))
local macro_rules | `(tactic| walk_at "w") => `(tactic| first
  | (with_reducible apply ans_or2; (case h1 => walk_at "w"); (case h2 => walk_at "w"))
  | (with_reducible apply ans_and2; (case h1 => walk_at "w"); (case h2 => walk_at "w"))
  | (with_reducible apply ans_not; walk_at "w")
  | (with_reducible apply ans_test; walk_at "v")
  | (with_reducible apply ans_val; walk_at "v"))
local macro_rules | `(tactic| walk_at "s1") => `(tactic| first
  | (with_reducible refine go_c ?_)
  | (with_reducible apply go_pick; (case hs => walk_at "hp"); (case h0 => walk_at "cond"); (case h1 => walk_at "cond"); (case' q => intro k a b c h0 h1))
  | (with_reducible refine go_nil ?_)
  | (with_reducible refine go_cons ?_)
  | (with_reducible refine go_call ?_)
  | (with_reducible refine go_cb ?_)
  | (with_reducible refine go_next ?_)
  | (with_reducible refine go_cont ?_)
  | (with_reducible refine go_ret ?_)
  | (with_reducible refine go_name ?_)
  | (with_reducible refine go_seq ?_)
  | (with_reducible refine go_asg ?_)
  | (with_reducible apply go_or; (case h => walk_at "v"))
  | (with_reducible apply go_and; (case h => walk_at "v"))
  | (with_reducible apply go_andL; (case h => walk_at "v"); (case' h1 => intro e); (case' h2 => intro e))
  | (with_reducible apply go_orL; (case h => walk_at "v"); (case' h1 => intro e); (case' h2 => intro e))
  | (with_reducible apply go_ifE; (case h => walk_at "v"))
  | (with_reducible apply go_ifOr; (case h => walk_at "w"); (case' h1 => intro e); (case' h2 => intro e))
  | (with_reducible apply go_ifAnd; (case h => walk_at "w"); (case' h1 => intro e); (case' h2 => intro e))
  | (with_reducible refine go_min ?_)
  | refine ⟨_, rfl, ?_⟩
  | refine ⟨_, _, rfl, rfl, ?_⟩
  | (refine And.intro ?cc ?_; (case cc => walk_at "cond"))
  | refine ⟨_, _, _, _, rfl, rfl, by walk_at "sq", by walk_at "at", ?_⟩
  | refine ⟨_, _, _, _, rfl, rfl, by walk_at "hp", by walk_at "ix", ?_⟩
  | refine ⟨_, _, _, _, rfl, rfl, by walk_at "hp", by walk_at "hp", by walk_at "len", ?_⟩
  | refine ⟨_, _, _, rfl, rfl, by walk_at "len", by walk_at "at", ?_⟩
  | refine ⟨_, _, _, rfl, rfl, by walk_at "hp", by walk_at "len", ?_⟩
  | refine ⟨_, _, _, rfl, rfl, by walk_at "hp", by walk_at "at", ?_⟩
  | refine ⟨_, _, rfl, rfl, by walk_at "sq", ?_⟩
  | refine ⟨_, _, rfl, rfl, by walk_at "len", ?_⟩
  | refine ⟨_, _, rfl, by walk_at "sq", ?_⟩
  | refine ⟨_, _, rfl, .inl (by walk_at "sq"), ?_⟩
  | refine ⟨_, _, rfl, .inr (by walk_at "sq"), ?_⟩
  | refine ⟨_, _, rfl, by walk_at "sq", rfl, ?_⟩
  | refine ⟨_, fun _ _ h => h, ?_⟩
  | refine ⟨_, _, rfl, ?_⟩
  | refine .inl ⟨_, rfl, ?_⟩
  | refine ⟨_, _, .type "int", .type _, true, rfl, ClsV.ty _, .base (.int _), kit_ty (by decide +kernel), ?_⟩
  | refine ⟨_, _, .type "int", .type _, false, rfl, ClsV.ty _, .base (.int _), kit_ty (by decide +kernel), ?_⟩
  | refine ⟨_, _, .type "bool", .type _, true, rfl, ClsV.ty _, .base (.bl _), kit_ty (by decide +kernel), ?_⟩
  | refine ⟨_, _, .type "bool", .type _, false, rfl, ClsV.ty _, .base (.bl _), kit_ty (by decide +kernel), ?_⟩
  | refine ⟨_, _, .type "str", .type _, true, rfl, ClsV.ty _, .base (.str _), kit_ty (by decide +kernel), ?_⟩
  | refine ⟨_, _, .type "str", .type _, false, rfl, ClsV.ty _, .base (.str _), kit_ty (by decide +kernel), ?_⟩
  | refine ⟨_, _, .type "NoneType", .type _, true, rfl, ClsV.ty _, .base (.non), kit_ty (by decide +kernel), ?_⟩
  | refine ⟨_, _, .type "NoneType", .type _, false, rfl, ClsV.ty _, .base (.non), kit_ty (by decide +kernel), ?_⟩
  | refine ⟨_, _, .type "list", .type _, true, rfl, ClsV.ty _, .base (.lst (by walk_at "hp")), kit_ty (by decide +kernel), ?_⟩
  | refine ⟨_, _, .type "list", .type _, false, rfl, ClsV.ty _, .base (.lst (by walk_at "hp")), kit_ty (by decide +kernel), ?_⟩
  | refine ⟨_, _, .type "tuple", .type _, true, rfl, ClsV.ty _, .base (.tup (by walk_at "hp")), kit_ty (by decide +kernel), ?_⟩
  | refine ⟨_, _, .type "tuple", .type _, false, rfl, ClsV.ty _, .base (.tup (by walk_at "hp")), kit_ty (by decide +kernel), ?_⟩
  | (refine fun (p : Addr) (hp : _ = none) => ?_)
  | refine iteT ?_
  | refine iteF ?_
  | refine iteD (fun _ => ?_) (fun e => absurd rfl e)
  | refine iteS (fun e => ?_) (fun e => ?_)
  | refine iteI (fun e => ?_) (fun e => ?_)
  | refine iteSn (fun e => ?_) (fun e => ?_)
  | refine iteIn (fun e => ?_) (fun e => ?_)
  | refine iteD (fun e => ?_) (fun e => ?_)
  | refine iteDn (fun e => ?_) (fun e => ?_)
  | refine ite2 (fun e => ?_) (fun e => ?_))
local macro_rules | `(tactic| walk_at "s") => `(tactic| repeat' (first
  | (with_reducible refine go_c ?_)
  | (with_reducible apply go_pick; (case hs => walk_at "hp"); (case h0 => walk_at "cond"); (case h1 => walk_at "cond"); (case' q => intro k a b c h0 h1))
  | (with_reducible refine go_nil ?_)
  | (with_reducible refine go_cons ?_)
  | (with_reducible refine go_call ?_)
  | (with_reducible refine go_cb ?_)
  | (with_reducible refine go_next ?_)
  | (with_reducible refine go_cont ?_)
  | (with_reducible refine go_ret ?_)
  | (with_reducible refine go_name ?_)
  | (with_reducible refine go_seq ?_)
  | (with_reducible refine go_asg ?_)
  | (with_reducible apply go_or; (case h => walk_at "v"))
  | (with_reducible apply go_and; (case h => walk_at "v"))
  | (with_reducible apply go_andL; (case h => walk_at "v"); (case' h1 => intro e); (case' h2 => intro e))
  | (with_reducible apply go_orL; (case h => walk_at "v"); (case' h1 => intro e); (case' h2 => intro e))
  | (with_reducible apply go_ifE; (case h => walk_at "v"))
  | (with_reducible apply go_ifOr; (case h => walk_at "w"); (case' h1 => intro e); (case' h2 => intro e))
  | (with_reducible apply go_ifAnd; (case h => walk_at "w"); (case' h1 => intro e); (case' h2 => intro e))
  | (with_reducible refine go_min ?_)
  | refine ⟨_, rfl, ?_⟩
  | refine ⟨_, _, rfl, rfl, ?_⟩
  | (refine And.intro ?cc ?_; (case cc => walk_at "cond"))
  | refine ⟨_, _, _, _, rfl, rfl, by walk_at "sq", by walk_at "at", ?_⟩
  | refine ⟨_, _, _, _, rfl, rfl, by walk_at "hp", by walk_at "ix", ?_⟩
  | refine ⟨_, _, _, _, rfl, rfl, by walk_at "hp", by walk_at "hp", by walk_at "len", ?_⟩
  | refine ⟨_, _, _, rfl, rfl, by walk_at "len", by walk_at "at", ?_⟩
  | refine ⟨_, _, _, rfl, rfl, by walk_at "hp", by walk_at "len", ?_⟩
  | refine ⟨_, _, _, rfl, rfl, by walk_at "hp", by walk_at "at", ?_⟩
  | refine ⟨_, _, rfl, rfl, by walk_at "sq", ?_⟩
  | refine ⟨_, _, rfl, rfl, by walk_at "len", ?_⟩
  | refine ⟨_, _, rfl, by walk_at "sq", ?_⟩
  | refine ⟨_, _, rfl, .inl (by walk_at "sq"), ?_⟩
  | refine ⟨_, _, rfl, .inr (by walk_at "sq"), ?_⟩
  | refine ⟨_, _, rfl, by walk_at "sq", rfl, ?_⟩
  | refine ⟨_, fun _ _ h => h, ?_⟩
  | refine ⟨_, _, rfl, ?_⟩
  | refine .inl ⟨_, rfl, ?_⟩
  | refine ⟨_, _, .type "int", .type _, true, rfl, ClsV.ty _, .base (.int _), kit_ty (by decide +kernel), ?_⟩
  | refine ⟨_, _, .type "int", .type _, false, rfl, ClsV.ty _, .base (.int _), kit_ty (by decide +kernel), ?_⟩
  | refine ⟨_, _, .type "bool", .type _, true, rfl, ClsV.ty _, .base (.bl _), kit_ty (by decide +kernel), ?_⟩
  | refine ⟨_, _, .type "bool", .type _, false, rfl, ClsV.ty _, .base (.bl _), kit_ty (by decide +kernel), ?_⟩
  | refine ⟨_, _, .type "str", .type _, true, rfl, ClsV.ty _, .base (.str _), kit_ty (by decide +kernel), ?_⟩
  | refine ⟨_, _, .type "str", .type _, false, rfl, ClsV.ty _, .base (.str _), kit_ty (by decide +kernel), ?_⟩
  | refine ⟨_, _, .type "NoneType", .type _, true, rfl, ClsV.ty _, .base (.non), kit_ty (by decide +kernel), ?_⟩
  | refine ⟨_, _, .type "NoneType", .type _, false, rfl, ClsV.ty _, .base (.non), kit_ty (by decide +kernel), ?_⟩
  | refine ⟨_, _, .type "list", .type _, true, rfl, ClsV.ty _, .base (.lst (by walk_at "hp")), kit_ty (by decide +kernel), ?_⟩
  | refine ⟨_, _, .type "list", .type _, false, rfl, ClsV.ty _, .base (.lst (by walk_at "hp")), kit_ty (by decide +kernel), ?_⟩
  | refine ⟨_, _, .type "tuple", .type _, true, rfl, ClsV.ty _, .base (.tup (by walk_at "hp")), kit_ty (by decide +kernel), ?_⟩
  | refine ⟨_, _, .type "tuple", .type _, false, rfl, ClsV.ty _, .base (.tup (by walk_at "hp")), kit_ty (by decide +kernel), ?_⟩
  | (refine fun (p : Addr) (hp : _ = none) => ?_)
  | refine iteT ?_
  | refine iteF ?_
  | refine iteD (fun _ => ?_) (fun e => absurd rfl e)
  | refine iteS (fun e => ?_) (fun e => ?_)
  | refine iteI (fun e => ?_) (fun e => ?_)
  | refine iteSn (fun e => ?_) (fun e => ?_)
  | refine iteIn (fun e => ?_) (fun e => ?_)
  | refine iteD (fun e => ?_) (fun e => ?_)
  | refine iteDn (fun e => ?_) (fun e => ?_)
  | refine ite2 (fun e => ?_) (fun e => ?_)))

section
variable {P : Program} {w : World} {K : PySem.W.Frag} {mg : Str → Option Value} {base : Heap}
/-! ### goals -/
def spGoals : Sp := fun vs H Q _ => ∃ (s r : Addr) (rs : List Rw), vs = [.ref s, .ref r, .int 3] ∧ Src H s ∧ RowsT H r rs ∧ s ≠ r ∧ 0 < rs.length ∧ rs.length ≤ 20 ∧
  ∀ (l : Addr) (H' : Hp) (gs : List Int), But s H H' → H l = none → Src H' s → Ints H' l gs → gs.length ≤ 10 → Q (.ref l) H'
theorem ok_goals (T : Top w K mg) : FnOk P w K mg base CX0 2 T.a_law_c_goals T.d_law_c_goals ["source", "rows", "most"] spGoals := by
  have G_law_pick := ok_pick (P := P) (w := w) (base := base) T
  refine T.F_law_c_goals.ok sc_law_c_goals (fun vs H Q E h => ?_) (fun cdv A outer s H vs Q E hr h => ?_)
  · obtain ⟨s, r, rs, rfl, _⟩ := h
    rfl
  · obtain ⟨s, r, rs, rfl, ⟨a, b, c, hs⟩, ⟨xs, hX, hE⟩, nsr, l0, l1, q⟩ := h
    have hXl := hE.len
    have nrs := nsr.symm
    refine ⟨_, (pss_cons (ps_set (i := 3) sc_law_c_goals.nd rfl (.inl rfl) (pe_lst pa_nil))
    (pss_cons (ps_for PassesOwn.never rfl (pi_range1 rfl T.m_range (pa_cons (pe_ix ix_list (pe_lst (pa_cons (pe_op op_add pe_int (pe_call G_law_pick (hr.mono (by omega)) (by rfl) T.m_law_pick T.F_law_pick.kp T.b_law_pick .nil pass0 (pa_cons (pv 0) (pa_cons (pv 2) pa_nil)))) (pa_cons (pe_call G_law_pick (hr.mono (by omega)) (by rfl) T.m_law_pick T.F_law_pick.kp T.b_law_pick .nil pass0 (pa_cons (pv 0) (pa_cons (pe_op op_add (pv 2) pe_int) pa_nil))) pa_nil))) (pe_callTy call_int1 (by rfl) T.m_int (by decide +kernel) (pa_cons (pe_cmpR op_eq (pe_call G_law_pick (hr.mono (by omega)) (by rfl) T.m_law_pick T.F_law_pick.kp T.b_law_pick .nil pass0 (pa_cons (pv 0) (pa_cons pe_int pa_nil))) pe_int (nomark _)) pa_nil)) (fun _ _ => rfl)) pa_nil)) (pg_name (i := 4) sc_law_c_goals.nd rfl (.inl rfl))
    (pss_cons (ps_set (i := 5) sc_law_c_goals.nd rfl (.inl rfl) (pe_call G_law_pick (hr.mono (by omega)) (by rfl) T.m_law_pick T.F_law_pick.kp T.b_law_pick .nil pass0 (pa_cons (pv 0) (pa_cons (pe_callB call_len_seq (by rfl) T.m_len (by decide +kernel) (pa_cons (pv 1) pa_nil)) pa_nil))))
    (pss_one (ps_expr (pe_bm PySem.F.plainAttrs_list PySem.F.slot_list_append PySem.F.type_list_append mt_append (pv 3) (pa_cons (pe_ifExp (pt_cmpR op_eq (pe_call G_law_pick (hr.mono (by omega)) (by rfl) T.m_law_pick T.F_law_pick.kp T.b_law_pick .nil pass0 (pa_cons (pv 0) (pa_cons pe_int pa_nil))) pe_int (nomark _)) (pv 5) (pe_op op_sub (pe_op op_sub (pe_callB call_len_seq (by rfl) T.m_len (by decide +kernel) (pa_cons (pv 1) pa_nil)) pe_int) (pe_call G_law_pick (hr.mono (by omega)) (by rfl) T.m_law_pick T.F_law_pick.kp T.b_law_pick .nil pass0 (pa_cons (pv 0) (pa_cons (pe_callB (call_min2 rfl) (by rfl) T.m_min (by decide +kernel) (pa_cons (pe_callB call_len_seq (by rfl) T.m_len (by decide +kernel) (pa_cons (pv 1) pa_nil)) (pa_cons pe_int pa_nil))) pa_nil))))) pa_nil))))))
    (pss_one (ps_ret (pv 3))))), ?_⟩
    walk_at "s"
    rename_i L hL k1 a1 b1 c1 k10 k11 k2 a2 b2 c2 k20 k21 O hO k3 a3 b3 c3 k30 k31
    have nsL : s ≠ L := ne_of_none hs hL
    have nLO : L ≠ O := ne_of_none (by walk_at "hp") hO
    have nsO : s ≠ O := ne_of_none upd_same hO
    have nrL : r ≠ L := ne_of_none hX hL
    have nrO : r ≠ O := ne_of_none (by walk_at "hp") hO
    refine .inr ⟨_, rfl, ?_⟩
    obtain ⟨n, hn0, hn1, hat⟩ : ∃ n : Int, 0 ≤ n ∧ n ≤ 3 ∧ atI [V.int (1 + k1), V.int k2] (if decide (V.int k3 = V.int 0) = true then 1 else 0) = some (.int n) := by
      by_cases e : decide (V.int k3 = V.int 0) = true
      · rw [if_pos e]
        exact ⟨k2, by omega, by omega, atI_nat (j := 1) rfl⟩
      · rw [if_neg e]
        exact ⟨1 + k1, by omega, by omega, atI_nat (j := 0) rfl⟩
    refine ⟨_, _, _, _, rfl, rfl, SqL.of ((upd_ne nsO.symm).trans upd_same), hat, ?_⟩
    walk_at "s"
    refine for_range (lo := 0) (n := n.toNat) (fun i σ H2 => ∃ (v4 v5 : Option V) (a b c : Int) (gs : List Int), σ = [some (.ref s), some (.ref r), some (.int 3), some (.ref L), v4, v5] ∧ But s H H2 ∧ H2 s = some (.lst [.int a, .int b, .int c]) ∧ H2 L = some (.lst (gs.map V.int)) ∧ gs.length = i) ?_ ?_ ?_
    · exact ⟨_, _, a3, b3, c3, [], rfl, ((((But.of (same_new hL)).trans But.upd).trans But.upd).trans' (same_new hO)).trans But.upd, upd_same, by walk_at "hp", rfl⟩
    · intro i σ H2 hi hP
      obtain ⟨v4, v5, a, b, c, gs, rfl, but, h1, h2, h3⟩ := hP
      have hX2 := but _ _ nrs hX
      have hgl : (gs.map V.int).length ≤ 10 := by
        rw [List.length_map]
        omega
      walk_at "s"
      · rename_i k1 a1 b1 c1 k10 k11 k2 a2 b2 c2 k20 k21 e
        refine ⟨_, _, _, _, _, gs ++ [k1], rfl, but_mut ((but.trans But.upd).trans But.upd) hL, by walk_at "hp", ?_, by simp [h3]⟩
        rw [upd_same, List.map_append]
        rfl
      · rename_i k1 a1 b1 c1 k10 k11 k2 a2 b2 c2 k20 k21 e k3 a3 b3 c3 k30 k31
        refine ⟨_, _, _, _, _, gs ++ [(xs.length : Int) - 1 - k3], rfl, but_mut (((but.trans But.upd).trans But.upd).trans But.upd) hL, by walk_at "hp", ?_, by simp [h3]⟩
        rw [upd_same, List.map_append]
        rfl
    · intro σ H2 hP
      obtain ⟨v4, v5, a, b, c, gs, rfl, but, h1, h2, h3⟩ := hP
      walk_at "s"
      exact q L H2 gs but hL ⟨a, b, c, h1⟩ h2 (by omega)
/-! ### the weight of nodes -/
def spWeight (K : PySem.W.Frag) : Sp := fun vs H Q _ => ∃ (a k : Addr) (rs : List Rw) (ks : List Int), vs = [.ref a, .ref k] ∧ RowsT H a rs ∧ Ints H k ks ∧ (∀ x ∈ ks, 0 ≤ x ∧ x < (rs.length : Int)) ∧ ks.length ≤ 20 ∧ WF rs ∧
  ∀ (n : Int) (H' : Hp), Same H H' → 0 ≤ n → n ≤ 1000 → Q (.int n) H'
theorem ok_weight (T : Top w K mg) : FnOk P w K mg base CX0 1 T.a_law_c_weight T.d_law_c_weight ["rows", "nodes"] (spWeight K) := by
  refine T.F_law_c_weight.ok sc_law_c_weight (fun vs H Q E h => ?_) (fun cdv A outer s H vs Q E hr h => ?_)
  · obtain ⟨a, k, rs, ks, rfl, _⟩ := h
    rfl
  · obtain ⟨a, k, rs, ks, rfl, ⟨xs, hX, hE⟩, hk, hin, hkl, hW, q⟩ := h
    have hXl := hE.len
    refine ⟨_, (pss_one (ps_ret (pe_callB (cr_sum rfl) (by rfl) T.m_sum (by decide +kernel) (pa_cons (pe_lc (own := [("node", 2)]) rfl sc_law_c_weight.nd (pi_list (pv 1)) (blkOk_by (own := [("node", 2)]) (N := ["rows", "nodes", "node"]) (sc := defScope s_law_c_weight) (by decide +kernel)) (fun _ _ _ _ _ => (pg_name (i := 2) sc_law_c_weight.nd rfl (.inl rfl))) (fun _ _ _ _ _ => pts_nil) (fun _ _ _ _ _ => (pe_ix (ix_tupB (K := K) rfl) (pe_ix (ix_listB (K := K) rfl) (pv 0) (pv 2) (fun _ _ => rfl)) pe_int (fun _ _ => rfl)))) pa_nil)))), ?_⟩
    walk_at "s"
    rename_i D hD
    refine lc_list (xs := ks.map V.int) (fun j H3 => Same H H3 ∧ ∃ ms : List Int, Ints H3 D ms ∧ ms.length = j ∧ ∀ x ∈ ms, 0 ≤ x ∧ x ≤ 3) ?_ ?_ ?_ ?_
    · exact ⟨same_new hD, [], upd_same, rfl, by simp⟩
    · intro j H3 hj hP
      exact SqL.of (hP.1 _ _ hk)
    · intro j x H3 hj hP
      obtain ⟨sm, ms, b1, b2, b3⟩ := hP
      obtain ⟨z, rfl, hz⟩ := map_get hj
      obtain ⟨z0, z1⟩ := hin z (List.mem_of_getElem? hz)
      have hjl := (List.getElem?_eq_some_iff.mp hz).1
      have hzl : z.toNat < rs.length := by omega
      have er : rs[z.toNat]? = some rs[z.toNat] := List.getElem?_eq_getElem hzl
      obtain ⟨u, eu, t, o, rfl, ht, ho⟩ := hE.get er
      have hX2 := sm _ _ hX
      have ht2 := sm _ _ ht
      have hat : atI xs z = some (.ref t) := by
        rw [show z = ((z.toNat : Nat) : Int) from by omega]
        exact atI_nat eu
      walk_at "s"
      have o1 := (hW _ _ er).1
      have o2 := (hW _ _ er).sz3
      refine ⟨_, b1, sz_less (by rw [List.length_map]; omega), same_mut sm hD, ms ++ [rs[z.toNat].sz], ?_, by simp [b2], ?_⟩
      · show upd _ _ _ _ = _
        rw [upd_same, nums_snoc]
      · intro x hx
        rcases List.mem_append.mp hx with hx | hx
        · exact b3 x hx
        · rw [List.mem_singleton] at hx
          subst hx
          omega
    · intro H3 hP
      obtain ⟨sm, ms, b1, b2, b3⟩ := hP
      walk_at "s"
      have := sum_le b3
      rw [List.length_map] at b2
      exact q _ H3 sm this.1 (by omega)
/-! ### the living nodes -/
def spLiving (K : PySem.W.Frag) : Sp := fun vs H Q _ => ∃ (a k : Addr) (rs : List Rw) (ks : List Int), vs = [.ref a, .ref k] ∧ RowsT H a rs ∧ WF rs ∧ rs.length ≤ 20 ∧ Ints H k ks ∧
  ∀ (l : Addr) (H' : Hp) (ls : List Int), Same H H' → H l = none → Ints H' l ls → (∀ x ∈ ls, 0 ≤ x ∧ x < (rs.length : Int)) → ls.length ≤ 20 → Q (.ref l) H'
theorem ok_living (T : Top w K mg) : FnOk P w K mg base CX0 2 T.a_law_c_living T.d_law_c_living ["rows", "wanted"] (spLiving K) := by
  have G_law_c_made := ok_cmade (P := P) (w := w) (base := base) T
  refine T.F_law_c_living.ok sc_law_c_living (fun vs H Q E h => ?_) (fun cdv A outer s H vs Q E hr h => ?_)
  · obtain ⟨a, k, rs, ks, rfl, _⟩ := h
    rfl
  · obtain ⟨a, k, rs, ks, rfl, hR, hW, hn, hk, q⟩ := h
    obtain ⟨xs, hX, hE⟩ := id hR
    have hXl := hE.len
    refine ⟨_, (pss_cons (ps_set (i := 3) sc_law_c_living.nd rfl (.inr rfl) (pe_lc (own := [("node", 2)]) rfl sc_law_c_living.nd (pi_range1 rfl T.m_range (pa_cons (pe_callB call_len_seq (by rfl) T.m_len (by decide +kernel) (pa_cons (pv 0) pa_nil)) pa_nil)) (blkOk_by (own := [("node", 2)]) (N := ["rows", "wanted", "node", "above", "turn", "operand", "bare"]) (sc := defScope s_law_c_living) (by decide +kernel)) (fun _ _ _ _ _ => (pg_name (i := 2) sc_law_c_living.nd rfl (.inl rfl))) (fun _ _ _ _ _ => pts_nil) (fun _ _ _ _ _ => (pe_cmpR (op_inB (K := K) rfl) (pv 2) (pv 1) (by rfl)))))
    (pss_cons (ps_for PassesOwn.never rfl (pi_range1 rfl T.m_range (pa_cons (pe_callB call_len_seq (by rfl) T.m_len (by decide +kernel) (pa_cons (pv 0) pa_nil)) pa_nil)) (pg_name (i := 4) sc_law_c_living.nd rfl (.inl rfl))
    (pss_cons (ps_set (i := 2) sc_law_c_living.nd rfl (.inl rfl) (pe_op op_sub (pe_op op_sub (pe_callB call_len_seq (by rfl) T.m_len (by decide +kernel) (pa_cons (pv 0) pa_nil)) pe_int) (pv 4)))
    (pss_one (ps_if (pt_val (pe_ix ix_list (pv 3) (pv 2) (fun _ _ => rfl)))
    (pss_one (ps_for PassesOwn.never rfl (pi_tup (pe_ix ix_tup (pe_ix ix_list (pv 0) (pv 2) (fun _ _ => rfl)) pe_int (fun _ _ => rfl))) (pg_name (i := 5) sc_law_c_living.nd rfl (.inl rfl))
    (pss_one (ps_asg pe_bl (pg_sub (pv 3) (pv 5) set_list)))))
    pss_nil))))
    (pss_cons (ps_set (i := 6) sc_law_c_living.nd rfl (.inr rfl) (pe_call G_law_c_made (hr.mono (by omega)) (by rfl) T.m_law_c_made T.F_law_c_made.kp T.b_law_c_made .nil pass0 (pa_cons (pv 0) (pa_cons (pe_lst pa_nil) pa_nil))))
    (pss_one (ps_ret (pe_lc (own := [("node", 2)]) rfl sc_law_c_living.nd (pi_range1 rfl T.m_range (pa_cons (pe_callB call_len_seq (by rfl) T.m_len (by decide +kernel) (pa_cons (pv 0) pa_nil)) pa_nil)) (blkOk_by (own := [("node", 2)]) (N := ["rows", "wanted", "node", "above", "turn", "operand", "bare"]) (sc := defScope s_law_c_living) (by decide +kernel)) (fun _ _ _ _ _ => (pg_name (i := 2) sc_law_c_living.nd rfl (.inl rfl))) (fun _ _ _ _ _ => pts_one (PW.pt (pw_and (pt_val (pe_ix (ix_listB (K := K) rfl) (pv 3) (pv 2) (fun _ _ => rfl))) (pw_and1 (pt_not (pt_val (pe_ix (ix_listB (K := K) rfl) (pv 6) (pv 2) (fun _ _ => rfl)))))))) (fun _ _ _ _ _ => (pv 2)))))))), ?_⟩
    walk_at "s"
    rename_i A hA
    have naA : a ≠ A := ne_of_none hX hA
    have hxn : ((xs.length : Int)).toNat = rs.length := by omega
    refine lc_range (lo := 0) (n := ((xs.length : Int)).toNat) (fun i H1 => Same H H1 ∧ ∃ bs : List Bool, bs.length = i ∧ H1 A = some (.lst (bs.map V.bl))) ?_ ?_ ?_
    · exact ⟨same_new hA, [], rfl, upd_same⟩
    · intro i H1 hi hP
      obtain ⟨sm, bs, b1, b2⟩ := hP
      have hk2 := sm _ _ hk
      walk_at "s"
      refine ⟨flat_ints, _, b2, sz_less (by rw [List.length_map]; omega), same_mut sm hA, bs ++ [inV (V.int (0 + (i : Int))) (ks.map V.int)], by simp [b1], ?_⟩
      rw [upd_same, List.map_append]
      rfl
    · intro H1 hP
      obtain ⟨sm, bs, b1, b2⟩ := hP
      have hX1 := sm _ _ hX
      walk_at "s"
      refine for_range (lo := 0) (n := ((xs.length : Int)).toNat) (fun i σ H2 => ∃ (v2 v4 v5 v6 : Option V) (bs : List Bool), σ = [some (.ref a), some (.ref k), v2, some (.ref A), v4, v5, v6] ∧ Same H H2 ∧ bs.length = rs.length ∧ H2 A = some (.lst (bs.map V.bl))) ?_ ?_ ?_
      · exact ⟨_, _, _, _, bs, rfl, sm, by omega, b2⟩
      · intro i σ H2 hi hP
        obtain ⟨v2, v4, v5, v6, bs, rfl, sm, b1, b2⟩ := hP
        have hX2 := sm _ _ hX
        simp only [Int.zero_add]
        have hv0 : 0 ≤ (xs.length : Int) - 1 - (i : Int) := by omega
        have hv1 : (xs.length : Int) - 1 - (i : Int) < rs.length := by omega
        walk_at "s"
        refine ⟨_, _, _, _, rfl, rfl, SqL.of b2, at_flag (f := bs) hv0 (by rw [b1]; exact hv1), ?_⟩
        have er : rs[((xs.length : Int) - 1 - (i : Int)).toNat]? = some rs[((xs.length : Int) - 1 - (i : Int)).toNat] := List.getElem?_eq_getElem (by omega)
        obtain ⟨u, eu, t, o, rfl, ht, ho⟩ := hE.get er
        have ht2 := sm _ _ ht
        have ho2 : OpsT H2 o rs[((xs.length : Int) - 1 - (i : Int)).toNat].ops := sm _ _ ho
        have hat : atI xs ((xs.length : Int) - 1 - (i : Int)) = some (.ref t) := by
          rw [show (xs.length : Int) - 1 - (i : Int) = ((((xs.length : Int) - 1 - (i : Int)).toNat : Nat) : Int) from by omega]
          exact atI_nat eu
        walk_at "s"
        · have hok := hW _ _ er
          refine for_tup (xs := (rs[((xs.length : Int) - 1 - (i : Int)).toNat].ops).map V.int) (fun j σ H3 => ∃ (v5 : Option V) (bs : List Bool), σ = [some (.ref a), some (.ref k), some (.int ((xs.length : Int) - 1 - (i : Int))), some (.ref A), some (.int i), v5, v6] ∧ Same H H3 ∧ Ts H2 H3 ∧ bs.length = rs.length ∧ H3 A = some (.lst (bs.map V.bl))) ?_ ?_ ?_ ?_
          · exact ⟨_, bs, rfl, sm, Ts.refl _, b1, b2⟩
          · intro j σ H3 hj hP
            obtain ⟨v5, bs, rfl, sm3, ts, c1, c2⟩ := hP
            exact SqT.of (ts _ _ ho2)
          · intro j x σ H3 hj hP
            obtain ⟨v5, bs, rfl, sm3, ts, c1, c2⟩ := hP
            obtain ⟨z, rfl, hz⟩ := map_get hj
            obtain ⟨z0, z1⟩ := hok.2.1 z (List.mem_of_getElem? hz)
            walk_at "s"
            refine ⟨A, _, z, _, rfl, rfl, c2, ixN_flag z0 (by rw [List.length_map, c1]; omega), ?_⟩
            refine ⟨_, bs.set z.toNat true, rfl, same_mut sm3 hA, ts.trans (Ts.upd c2), by rw [List.length_set]; exact c1, ?_⟩
            rw [upd_same, List.map_set]
          · intro σ H3 hP
            obtain ⟨v5, bs, rfl, sm3, ts, c1, c2⟩ := hP
            exact ⟨_, _, _, _, bs, rfl, sm3, c1, c2⟩
        · exact ⟨_, _, _, _, bs, rfl, sm, b1, b2⟩
      · intro σ H2 hP
        obtain ⟨v2, v4, v5, v6, bs, rfl, sm, b1, b2⟩ := hP
        have hX2 := sm _ _ hX
        walk_at "s"
        rename_i N hN
        refine ⟨a, N, rs, [], rfl, (hR.same sm).same (same_new hN), hW, hn, upd_same, fun B H3 sm3 nB hB => ?_⟩
        have sm4 : Same H2 H3 := (same_new hN).trans sm3
        have hX3 := sm4 _ _ hX2
        have b3 := sm4 _ _ b2
        walk_at "s"
        rename_i D hD
        have nD : H D = none := (sm.trans sm4).free hD
        refine lc_range (lo := 0) (n := ((xs.length : Int)).toNat) (fun i H4 => Same H3 H4 ∧ ∃ ls : List Int, Ints H4 D ls ∧ ls.length ≤ i ∧ ∀ x ∈ ls, 0 ≤ x ∧ x < (i : Int)) ?_ ?_ ?_
        · exact ⟨same_new hD, [], upd_same, Nat.le_refl _, by simp⟩
        · intro i H4 hi hP
          obtain ⟨sm5, ls, g1, g2, g3⟩ := hP
          have k1 := sm5 _ _ b3
          have k2 := sm5 _ _ hB
          simp only [Int.zero_add]
          walk_at "s"
          refine ⟨_, _, _, _, rfl, rfl, SqL.of k1, at_flag (f := bs) (o := (i : Int)) (by omega) (by rw [b1]; omega), ?_⟩
          have old : ∃ ls : List Int, Ints H4 D ls ∧ ls.length ≤ i + 1 ∧ ∀ x ∈ ls, 0 ≤ x ∧ x < ((i + 1 : Nat) : Int) := ⟨ls, g1, by omega, fun x hx => by have := g3 x hx; omega⟩
          walk_at "s"
          · refine ⟨_, _, _, _, rfl, rfl, SqL.of k2, at_flag (f := flags rs []) (o := (i : Int)) (by omega) (by rw [flags_len]; omega), ?_⟩
            walk_at "s"
            · refine ⟨_, g1, sz_less (by rw [List.length_map]; omega), same_mut sm5 hD, ls ++ [(i : Int)], ?_, by simp; omega, ?_⟩
              · show upd _ _ _ _ = _
                rw [upd_same, nums_snoc]
              · intro x hx
                rcases List.mem_append.mp hx with hx | hx
                · have := g3 x hx
                  omega
                · rw [List.mem_singleton] at hx
                  subst hx
                  omega
            · exact old
          · exact old
        · intro H4 hP
          obtain ⟨sm5, ls, g1, g2, g3⟩ := hP
          walk_at "s"
          exact q D H4 ls ((sm.trans sm4).trans sm5) nD g1 (fun x hx => by have := g3 x hx; omega) (by omega)
end
end K17W
set_option Elab.async false
set_option linter.all false
set_option maxRecDepth 100000
set_option maxHeartbeats 4000000
namespace K17W
open PySem PySem.Spec PyProof.Rows L2 TL LW NT
local macro_rules | `(tactic| walk_at "ne") => `(tactic| first
  | assumption
  | exact Ne.symm (by assumption)
  | exact ne_of_none (by assumption) (by assumption)
  | exact (ne_of_none (by assumption) (by assumption)).symm
  | (apply ne_of_none; (case h' => assumption); (case h => walk_at "hp"))
  | (apply Ne.symm; apply ne_of_none; (case h' => assumption); (case h => walk_at "hp")))
local macro_rules | `(tactic| walk_at "hp") => `(tactic| first
  | assumption
  | exact upd_same
  | exact hp_new (by assumption) (by assumption)
  | (apply hp_new; (case n => assumption); (case h => walk_at "hp"))
  | (refine (upd_ne ?ne).trans ?hp; (case ne => walk_at "ne"); (case hp => walk_at "hp")))
local macro_rules | `(tactic| walk_at "sq") => `(tactic| first
  | ((with_reducible show SqL _ _ _ _); assumption)
  | ((with_reducible show SqT _ _ _ _); assumption)
  | exact SqL.of (by assumption)
  | exact SqL.of upd_same
  | exact SqT.of (by assumption)
  | exact SqT.of upd_same
  | (apply SqL.of; walk_at "hp")
  | (apply SqT.of; walk_at "hp"))
local macro_rules | `(tactic| walk_at "len") => `(tactic| first
  | assumption
  | exact sz_small (by omega)
  | exact sz_less (by omega)
  | decide
  | (refine sz_small ?_; simp only [List.length_append, List.length_cons, List.length_nil, List.length_map, str_len]; omega)
  | (refine sz_less ?_; simp only [List.length_append, List.length_cons, List.length_nil, List.length_map, str_len]; omega))
local macro_rules | `(tactic| walk_at "cond") => `(tactic| first
  | omega
  | (split <;> omega)
  | assumption
  | exact .inl ⟨by omega, by omega⟩
  | exact .inr ⟨by omega, by omega⟩
  | exact ⟨by omega, by omega⟩
  | (show (0 : Int) < _; omega)
  | (show (0 : Int) < _; decide +kernel)
  | exact ⟨by omega, by omega, by decide⟩
  | walk_at "len"
  | rfl
  | (show CMulW _ _; unfold CMulW; decide +kernel)
  | exact ⟨_, rfl⟩
  | decide +kernel
  | exact ⟨_, by walk_at "sq"⟩
  | exact .inl ⟨rfl, _, by walk_at "sq"⟩)
local macro_rules | `(tactic| walk_at "at") => `(tactic| first
  | assumption
  | exact atI_nat (by assumption)
  | exact atI_last _ _
  | exact atI_nat (j := 0) rfl
  | exact atI_nat (j := 1) rfl
  | exact atI_nat (j := 2) rfl
  | exact atI_nat (j := 3) rfl
  | exact atI_nat (j := 4) rfl)
local macro_rules | `(tactic| walk_at "ix") => `(tactic| first
  | assumption
  | (with_reducible exact ixN_0 (by simp; done))
  | (with_reducible exact ixN_1 (by simp; done))
  | (with_reducible exact ixN_2 (by simp; done))
  | (with_reducible exact Evl.ixN_nat (by assumption))
  | (with_reducible exact Evl.ixN_nat (by omega)))
local macro_rules | `(tactic| walk_at "v") => `(tactic| first
  | exact val_var rfl
  | (with_reducible exact val_c)
  | (with_reducible apply val_orV; (case ha => walk_at "v"); (case hb => walk_at "v"))
  | (with_reducible apply val_andV; (case ha => walk_at "v"); (case hb => walk_at "v"))
  | (with_reducible apply val_notV; walk_at "v")
  | (with_reducible apply val_ifS; (case h => walk_at "w"); (case ha => walk_at "v"); (case hb => walk_at "v"))
  | (with_reducible apply val_ifI; (case h => walk_at "w"); (case ha => walk_at "v"); (case hb => walk_at "v"))
  | (with_reducible apply val_ifB; (case h => walk_at "w"); (case ha => walk_at "v"); (case hb => walk_at "v"))
  | (with_reducible apply val_eqS; (case ha => walk_at "v"); (case hb => walk_at "v"))
  | (with_reducible apply val_eqI; (case ha => walk_at "v"); (case hb => walk_at "v"))
  | (with_reducible apply val_neS; (case ha => walk_at "v"); (case hb => walk_at "v"))
  | (with_reducible apply val_neI; (case ha => walk_at "v"); (case hb => walk_at "v"))
  | (with_reducible apply val_op; (case ha => walk_at "v"); (case hb => walk_at "v"); (case hr => exact fun Q q => ⟨_, _, rfl, rfl, q⟩)))
local macro_rules | `(tactic| walk_at "w") => `(tactic| first
  | (with_reducible apply ans_or2; (case h1 => walk_at "w"); (case h2 => walk_at "w"))
  | (with_reducible apply ans_and2; (case h1 => walk_at "w"); (case h2 => walk_at "w"))
  | (with_reducible apply ans_not; walk_at "w")
  | (with_reducible apply ans_test; walk_at "v")
  | (with_reducible apply ans_val; walk_at "v"))
local macro_rules | `(tactic| walk_at "s1") => `(tactic| first
  | (with_reducible refine go_c ?_)
  | (with_reducible apply go_pick; (case hs => walk_at "hp"); (case h0 => walk_at "cond"); (case h1 => walk_at "cond"); (case' q => intro k a b c h0 h1))
  | (with_reducible refine go_nil ?_)
  | (with_reducible refine go_cons ?_)
  | (with_reducible refine go_call ?_)
  | (with_reducible refine go_cb ?_)
  | (with_reducible refine go_next ?_)
  | (with_reducible refine go_cont ?_)
  | (with_reducible refine go_ret ?_)
  | (with_reducible refine go_name ?_)
  | (with_reducible refine go_seq ?_)
  | (with_reducible refine go_asg ?_)
  | (with_reducible apply go_or; (case h => walk_at "v"))
  | (with_reducible apply go_and; (case h => walk_at "v"))
  | (with_reducible apply go_andL; (case h => walk_at "v"); (case' h1 => intro e); (case' h2 => intro e))
  | (with_reducible apply go_orL; (case h => walk_at "v"); (case' h1 => intro e); (case' h2 => intro e))
  | (with_reducible apply go_ifE; (case h => walk_at "v"))
  | (with_reducible apply go_ifOr; (case h => walk_at "w"); (case' h1 => intro e); (case' h2 => intro e))
  | (with_reducible apply go_ifAnd; (case h => walk_at "w"); (case' h1 => intro e); (case' h2 => intro e))
  | (with_reducible refine go_min ?_)
  | refine ⟨_, rfl, ?_⟩
  | refine ⟨_, _, rfl, rfl, ?_⟩
  | (refine And.intro ?cc ?_; (case cc => walk_at "cond"))
  | refine ⟨_, _, _, _, rfl, rfl, by walk_at "sq", by walk_at "at", ?_⟩
  | refine ⟨_, _, _, _, rfl, rfl, by walk_at "hp", by walk_at "ix", ?_⟩
  | refine ⟨_, _, _, _, rfl, rfl, by walk_at "hp", by walk_at "hp", by walk_at "len", ?_⟩
  | refine ⟨_, _, _, rfl, rfl, by walk_at "len", by walk_at "at", ?_⟩
  | refine ⟨_, _, _, rfl, rfl, by walk_at "hp", by walk_at "len", ?_⟩
  | refine ⟨_, _, _, rfl, rfl, by walk_at "hp", by walk_at "at", ?_⟩
  | refine ⟨_, _, rfl, rfl, by walk_at "sq", ?_⟩
  | refine ⟨_, _, rfl, rfl, by walk_at "len", ?_⟩
  | refine ⟨_, _, rfl, by walk_at "sq", ?_⟩
  | refine ⟨_, _, rfl, .inl (by walk_at "sq"), ?_⟩
  | refine ⟨_, _, rfl, .inr (by walk_at "sq"), ?_⟩
  | refine ⟨_, _, rfl, by walk_at "sq", rfl, ?_⟩
  | refine ⟨_, fun _ _ h => h, ?_⟩
  | refine ⟨_, _, rfl, ?_⟩
  | refine .inl ⟨_, rfl, ?_⟩
  | refine ⟨_, _, .type "int", .type _, true, rfl, ClsV.ty _, .base (.int _), kit_ty (by decide +kernel), ?_⟩
  | refine ⟨_, _, .type "int", .type _, false, rfl, ClsV.ty _, .base (.int _), kit_ty (by decide +kernel), ?_⟩
  | refine ⟨_, _, .type "bool", .type _, true, rfl, ClsV.ty _, .base (.bl _), kit_ty (by decide +kernel), ?_⟩
  | refine ⟨_, _, .type "bool", .type _, false, rfl, ClsV.ty _, .base (.bl _), kit_ty (by decide +kernel), ?_⟩
  | refine ⟨_, _, .type "str", .type _, true, rfl, ClsV.ty _, .base (.str _), kit_ty (by decide +kernel), ?_⟩
  | refine ⟨_, _, .type "str", .type _, false, rfl, ClsV.ty _, .base (.str _), kit_ty (by decide +kernel), ?_⟩
  | refine ⟨_, _, .type "NoneType", .type _, true, rfl, ClsV.ty _, .base (.non), kit_ty (by decide +kernel), ?_⟩
  | refine ⟨_, _, .type "NoneType", .type _, false, rfl, ClsV.ty _, .base (.non), kit_ty (by decide +kernel), ?_⟩
  | refine ⟨_, _, .type "list", .type _, true, rfl, ClsV.ty _, .base (.lst (by walk_at "hp")), kit_ty (by decide +kernel), ?_⟩
  | refine ⟨_, _, .type "list", .type _, false, rfl, ClsV.ty _, .base (.lst (by walk_at "hp")), kit_ty (by decide +kernel), ?_⟩
  | refine ⟨_, _, .type "tuple", .type _, true, rfl, ClsV.ty _, .base (.tup (by walk_at "hp")), kit_ty (by decide +kernel), ?_⟩
  | refine ⟨_, _, .type "tuple", .type _, false, rfl, ClsV.ty _, .base (.tup (by walk_at "hp")), kit_ty (by decide +kernel), ?_⟩
  | (refine fun (p : Addr) (hp : _ = none) => ?_)
  | refine iteT ?_
  | refine iteF ?_
  | refine iteD (fun _ => ?_) (fun e => absurd rfl e)
  | refine iteS (fun e => ?_) (fun e => ?_)
  | refine iteI (fun e => ?_) (fun e => ?_)
  | refine iteSn (fun e => ?_) (fun e => ?_)
  | refine iteIn (fun e => ?_) (fun e => ?_)
  | refine iteD (fun e => ?_) (fun e => ?_)
  | refine iteDn (fun e => ?_) (fun e => ?_)
  | refine ite2 (fun e => ?_) (fun e => ?_))
local macro_rules | `(tactic| walk_at "s") => `(tactic| repeat' (first
  | (with_reducible refine go_c ?_)
  | (with_reducible apply go_pick; (case hs => walk_at "hp"); (case h0 => walk_at "cond"); (case h1 => walk_at "cond"); (case' q => intro k a b c h0 h1))
  | (with_reducible refine go_nil ?_)
  | (with_reducible refine go_cons ?_)
  | (with_reducible refine go_call ?_)
  | (with_reducible refine go_cb ?_)
  | (with_reducible refine go_next ?_)
  | (with_reducible refine go_cont ?_)
  | (with_reducible refine go_ret ?_)
  | (with_reducible refine go_name ?_)
  | (with_reducible refine go_seq ?_)
  | (with_reducible refine go_asg ?_)
  | (with_reducible apply go_or; (case h => walk_at "v"))
  | (with_reducible apply go_and; (case h => walk_at "v"))
  | (with_reducible apply go_andL; (case h => walk_at "v"); (case' h1 => intro e); (case' h2 => intro e))
  | (with_reducible apply go_orL; (case h => walk_at "v"); (case' h1 => intro e); (case' h2 => intro e))
  | (with_reducible apply go_ifE; (case h => walk_at "v"))
  | (with_reducible apply go_ifOr; (case h => walk_at "w"); (case' h1 => intro e); (case' h2 => intro e))
  | (with_reducible apply go_ifAnd; (case h => walk_at "w"); (case' h1 => intro e); (case' h2 => intro e))
  | (with_reducible refine go_min ?_)
  | refine ⟨_, rfl, ?_⟩
  | refine ⟨_, _, rfl, rfl, ?_⟩
  | (refine And.intro ?cc ?_; (case cc => walk_at "cond"))
  | refine ⟨_, _, _, _, rfl, rfl, by walk_at "sq", by walk_at "at", ?_⟩
  | refine ⟨_, _, _, _, rfl, rfl, by walk_at "hp", by walk_at "ix", ?_⟩
  | refine ⟨_, _, _, _, rfl, rfl, by walk_at "hp", by walk_at "hp", by walk_at "len", ?_⟩
  | refine ⟨_, _, _, rfl, rfl, by walk_at "len", by walk_at "at", ?_⟩
  | refine ⟨_, _, _, rfl, rfl, by walk_at "hp", by walk_at "len", ?_⟩
  | refine ⟨_, _, _, rfl, rfl, by walk_at "hp", by walk_at "at", ?_⟩
  | refine ⟨_, _, rfl, rfl, by walk_at "sq", ?_⟩
  | refine ⟨_, _, rfl, rfl, by walk_at "len", ?_⟩
  | refine ⟨_, _, rfl, by walk_at "sq", ?_⟩
  | refine ⟨_, _, rfl, .inl (by walk_at "sq"), ?_⟩
  | refine ⟨_, _, rfl, .inr (by walk_at "sq"), ?_⟩
  | refine ⟨_, _, rfl, by walk_at "sq", rfl, ?_⟩
  | refine ⟨_, fun _ _ h => h, ?_⟩
  | refine ⟨_, _, rfl, ?_⟩
  | refine .inl ⟨_, rfl, ?_⟩
  | refine ⟨_, _, .type "int", .type _, true, rfl, ClsV.ty _, .base (.int _), kit_ty (by decide +kernel), ?_⟩
  | refine ⟨_, _, .type "int", .type _, false, rfl, ClsV.ty _, .base (.int _), kit_ty (by decide +kernel), ?_⟩
  | refine ⟨_, _, .type "bool", .type _, true, rfl, ClsV.ty _, .base (.bl _), kit_ty (by decide +kernel), ?_⟩
  | refine ⟨_, _, .type "bool", .type _, false, rfl, ClsV.ty _, .base (.bl _), kit_ty (by decide +kernel), ?_⟩
  | refine ⟨_, _, .type "str", .type _, true, rfl, ClsV.ty _, .base (.str _), kit_ty (by decide +kernel), ?_⟩
  | refine ⟨_, _, .type "str", .type _, false, rfl, ClsV.ty _, .base (.str _), kit_ty (by decide +kernel), ?_⟩
  | refine ⟨_, _, .type "NoneType", .type _, true, rfl, ClsV.ty _, .base (.non), kit_ty (by decide +kernel), ?_⟩
  | refine ⟨_, _, .type "NoneType", .type _, false, rfl, ClsV.ty _, .base (.non), kit_ty (by decide +kernel), ?_⟩
  | refine ⟨_, _, .type "list", .type _, true, rfl, ClsV.ty _, .base (.lst (by walk_at "hp")), kit_ty (by decide +kernel), ?_⟩
  | refine ⟨_, _, .type "list", .type _, false, rfl, ClsV.ty _, .base (.lst (by walk_at "hp")), kit_ty (by decide +kernel), ?_⟩
  | refine ⟨_, _, .type "tuple", .type _, true, rfl, ClsV.ty _, .base (.tup (by walk_at "hp")), kit_ty (by decide +kernel), ?_⟩
  | refine ⟨_, _, .type "tuple", .type _, false, rfl, ClsV.ty _, .base (.tup (by walk_at "hp")), kit_ty (by decide +kernel), ?_⟩
  | (refine fun (p : Addr) (hp : _ = none) => ?_)
  | refine iteT ?_
  | refine iteF ?_
  | refine iteD (fun _ => ?_) (fun e => absurd rfl e)
  | refine iteS (fun e => ?_) (fun e => ?_)
  | refine iteI (fun e => ?_) (fun e => ?_)
  | refine iteSn (fun e => ?_) (fun e => ?_)
  | refine iteIn (fun e => ?_) (fun e => ?_)
  | refine iteD (fun e => ?_) (fun e => ?_)
  | refine iteDn (fun e => ?_) (fun e => ?_)
  | refine ite2 (fun e => ?_) (fun e => ?_)))

/-- the users of each living node -/
def UsersAt (H : Hp) (u : Addr) (ls : List Int) : Prop := ∃ kvs, H u = some (.dK kvs) ∧ ∀ x ∈ ls, ∃ (l : Addr) (us : List Int), valV kvs (Sum.inl x : Key) = some (.ref l) ∧ Ints H l us ∧ (∀ y ∈ us, y ∈ ls) ∧ us.length ≤ 20
/-- the flow over pairs of a living node (or -1) and any other -/
def FlowAt (H : Hp) (f : Addr) (ls : List Int) (m : Nat) : Prop := ∃ kvs : List (List Key × V), H f = some (.dT kvs) ∧ kvs.length ≤ m ∧ ∀ k v, valV kvs k = some v → ∃ a b n : Int, k = [.inl a, .inl b] ∧ v = .int n ∧ (a = -1 ∨ a ∈ ls)
theorem flow_get {H : Hp} {f q : Addr} {fk : List (List Key × V)} {ls : List Int} {x y : Int} (hfv : ∀ (k : List Key) (v : V), valV fk k = some v → ∃ a b n : Int, k = [.inl a, .inl b] ∧ v = .int n ∧ (a = -1 ∨ a ∈ ls)) (h : H f = some (.dT fk)) (hq : H q = some (.tup [.int x, .int y])) :
    ∃ (o : Option V) (n : Int), DGet H f (.ref q) o ∧ o.getD (.int 0) = .int n ∧ (0 < n → x = -1 ∨ x ∈ ls) := by
  have g : DGet H f (.ref q) (valV fk ([Sum.inl x, Sum.inl y] : List Key)) := DGet.t h hq
  cases e : valV fk ([Sum.inl x, Sum.inl y] : List Key) with
  | none =>
    rw [e] at g
    exact ⟨_, 0, g, rfl, fun h => absurd h (by decide)⟩
  | some v =>
    rw [e] at g
    obtain ⟨a, b, n, e1, e2, e3⟩ := hfv _ _ e
    refine ⟨_, n, g, by rw [e2]; rfl, fun _ => ?_⟩
    have : x = a := by
      have := (List.cons.inj e1).1
      exact Sum.inl.inj this
    rw [this]
    exact e3
section
variable {P : Program} {w : World} {K : PySem.W.Frag} {mg : Str → Option Value} {base : Heap}
/-! ### the next points -/
def spNext (K : PySem.W.Frag) : Sp := fun vs H Q _ => ∃ (a k lv u f : Addr) (rs : List Rw) (ls : List Int) (m : Nat) (p : Int), vs = [.ref a, .ref k, .ref lv, .ref u, .ref f, .int p] ∧ RowsT H a rs ∧ WF rs ∧ rs.length ≤ 20 ∧ (∀ x ∈ ls, 0 ≤ x ∧ x < (rs.length : Int)) ∧
  UsersAt H u ls ∧ FlowAt H f ls m ∧ 0 ≤ p ∧ p / 2 ∈ ls ∧
  ∀ (l : Addr) (H' : Hp) (ps : List Int), Same H H' → H l = none → Ints H' l ps → (∀ x ∈ ps, 0 ≤ x ∧ x / 2 ∈ ls) → ps.length ≤ 60 → Q (.ref l) H'
theorem ok_next (T : Top w K mg) : FnOk P w K mg base CX0 1 T.a_law_c_next T.d_law_c_next ["rows", "wanted", "living", "users", "flow", "point"] (spNext K) := by
  refine T.F_law_c_next.ok sc_law_c_next (fun vs H Q E h => ?_) (fun cdv A outer s H vs Q E hr h => ?_)
  · obtain ⟨a, k, lv, u, f, rs, ls, m, p, rfl, _⟩ := h
    rfl
  · obtain ⟨a, k, lv, u, f, rs, ls, m, p, rfl, hR, hW, hn, hls, hU, hF, p0, p1, q⟩ := h
    obtain ⟨xs, hX, hE⟩ := id hR
    have hXl := hE.len
    have hu := hu_of hr
    obtain ⟨d0, d1⟩ := hls _ p1
    have er : rs[(p / 2).toNat]? = some rs[(p / 2).toNat] := List.getElem?_eq_getElem (by omega)
    obtain ⟨u0, eu, t, o, rfl, ht, ho⟩ := hE.get er
    have hat : atI xs (p / 2) = some (.ref t) := by
      rw [show p / 2 = (((p / 2).toNat : Nat) : Int) from by omega]
      exact atI_nat eu
    have ho2 : H o = some (.tup (rs[(p / 2).toNat].ops.map V.int)) := ho
    obtain ⟨fk, hf, hfl, hfv⟩ := hF
    refine ⟨_, (pss_cons (ps_set (i := 6) sc_law_c_next.nd rfl (.inr rfl) (pe_op op_fdiv (pv 5) pe_int))
    (pss_cons (ps_if (pt_cmpR op_eq (pv 5) (pe_op op_mul pe_int (pv 6)) (nomark _))
    (pss_cons (ps_setLc (i := 7) (own := [("operand", 8)]) rfl sc_law_c_next.nd rfl rfl (sw_true rfl rfl rfl (by decide +kernel)) (pi_tup (pe_ix ix_tup (pe_ix ix_list (pv 0) (pv 6) (fun _ _ => rfl)) pe_int (fun _ _ => rfl))) (blkOk_by (own := [("operand", 8)]) (N := ["rows", "wanted", "living", "users", "flow", "point", "node", "found", "operand", "user"]) (sc := defScope s_law_c_next) (by decide +kernel)) (fun _ _ _ _ _ => (pg_name (i := 8) sc_law_c_next.nd rfl (.inl rfl))) (fun _ _ _ _ _ => pts_one (pt_cmpR op_gt (pe_dget2 hu (pv 4) (pe_tup (pa_cons (pv 8) (pa_cons (pv 6) pa_nil))) pe_int ⟨rfl, rfl, rfl, rfl⟩) pe_int (nomark _))) (fun _ _ _ _ _ => (pe_op op_add (pe_op op_mul pe_int (pv 8)) pe_int)))
    (pss_one (ps_ret (pe_op op_cat (pv 7) (pe_ifExp (pt_cmpR op_lt (pe_dget2 hu (pv 4) (pe_tup (pa_cons (pv 6) (pa_cons (pv 6) pa_nil))) pe_int ⟨rfl, rfl, rfl, rfl⟩) (pe_ix ix_tup (pe_ix ix_list (pv 0) (pv 6) (fun _ _ => rfl)) pe_int (fun _ _ => rfl)) (nomark _)) (pe_lst (pa_cons (pe_op op_add (pv 5) pe_int) pa_nil)) (pe_lst pa_nil))))))
    pss_nil)
    (pss_one (ps_ret (pe_op op_cat (pe_lc (own := [("user", 9)]) rfl sc_law_c_next.nd (pi_list (pe_dget hu (pv 3) (pv 6) (fun _ _ => rfl))) (blkOk_by (own := [("user", 9)]) (N := ["rows", "wanted", "living", "users", "flow", "point", "node", "found", "operand", "user"]) (sc := defScope s_law_c_next) (by decide +kernel)) (fun _ _ _ _ _ => (pg_name (i := 9) sc_law_c_next.nd rfl (.inl rfl))) (fun _ _ _ _ _ => pts_nil) (fun _ _ _ _ _ => (pe_op op_mul pe_int (pv 9)))) (pe_ifExp (pt_cmpR op_gt (pe_dget2 hu (pv 4) (pe_tup (pa_cons (pv 6) (pa_cons (pv 6) pa_nil))) pe_int ⟨rfl, rfl, rfl, rfl⟩) pe_int (nomark _)) (pe_lst (pa_cons (pe_op op_sub (pv 5) pe_int) pa_nil)) (pe_lst pa_nil))))))), ?_⟩
    walk_at "s"
    · rename_i e B hB
      have h4 := (hW _ _ er).2.2.2
      refine lc_tup (xs := rs[(p / 2).toNat].ops.map V.int) (fun j H3 => Same H H3 ∧ ∃ ps : List Int, Ints H3 B ps ∧ ps.length ≤ j ∧ ∀ x ∈ ps, 0 ≤ x ∧ x / 2 ∈ ls) ?_ ?_ ?_ ?_
      · exact ⟨same_new hB, [], upd_same, Nat.le_refl _, by simp⟩
      · intro j H3 hj hP
        exact SqT.of (hP.1 _ _ ho2)
      · intro j x H3 hj hP
        obtain ⟨sm, ps, b1, b2, b3⟩ := hP
        obtain ⟨z, rfl, hz⟩ := map_get hj
        obtain ⟨z0, z1⟩ := (hW _ _ er).2.1 z (List.mem_of_getElem? hz)
        have hjl := (List.getElem?_eq_some_iff.mp hz).1
        have hf3 := sm _ _ hf
        walk_at "s"
        refine ⟨.inr ⟨_, .inl hf3⟩, ?_⟩
        walk_at "s"
        rename_i q1 hq1
        obtain ⟨o1, n1, g1, g2, g3⟩ := flow_get hfv (hp_new hf3 hq1) upd_same
        refine ⟨o1, g1, ?_⟩
        rw [g2]
        have sm5 : Same H (upd H3 q1 (.tup [.int z, .int (p / 2)])) := sm.trans (same_new hq1)
        have b5 : Ints (upd H3 q1 (.tup [.int z, .int (p / 2)])) B ps := hp_new b1 hq1
        walk_at "s"
        · rename_i e2
          have hzl : z ∈ ls := by
            rcases g3 e2 with h | h
            · omega
            · exact h
          refine ⟨_, b5, sz_less (by rw [List.length_map]; omega), same_mut sm5 hB, ps ++ [2 * z + 1], ?_, by simp; omega, ?_⟩
          · show upd _ _ _ _ = _
            rw [upd_same, nums_snoc]
          · intro x hx
            rcases List.mem_append.mp hx with hx | hx
            · exact b3 x hx
            · rw [List.mem_singleton] at hx
              subst hx
              rw [show (2 * z + 1) / 2 = z from by omega]
              exact ⟨by omega, hzl⟩
        · first | exact ⟨sm5, ps, b5, by omega, b3⟩ | exact ⟨ps, b5, by omega, b3⟩
      · intro H3 hP
        obtain ⟨sm, ps, b1, b2, b3⟩ := hP
        have hf3 := sm _ _ hf
        have ht3 := sm _ _ ht
        have hX3 := sm _ _ hX
        walk_at "s"
        refine ⟨.inr ⟨_, .inl hf3⟩, ?_⟩
        walk_at "s"
        rename_i q1 hq1
        obtain ⟨o1, n1, g1, g2, g3⟩ := flow_get hfv (hp_new hf3 hq1) upd_same
        refine ⟨o1, g1, ?_⟩
        rw [g2]
        rw [List.length_map] at b2
        have nB : H B = none := hB
        have sm5 : Same H (upd H3 q1 (.tup [.int (p / 2), .int (p / 2)])) := sm.trans (same_new hq1)
        have b5 : upd H3 q1 (.tup [.int (p / 2), .int (p / 2)]) B = some (.lst (ps.map V.int)) := hp_new b1 hq1
        walk_at "s"
        · rename_i e2 C hC D hD
          have sm6 := sm5.trans (same_new (o := .lst [.int (p + 1)]) hC)
          · refine q D _ (ps ++ [p + 1]) (sm6.trans (same_new hD)) (sm6.free hD) ?_ ?_ (by simp; omega)
            · show upd _ _ _ _ = _
              rw [upd_same, ← nums_snoc]
            · intro x hx
              rcases List.mem_append.mp hx with hx | hx
              · exact b3 x hx
              · rw [List.mem_singleton] at hx
                subst hx
                rw [show (p + 1) / 2 = p / 2 from by omega]
                exact ⟨by omega, p1⟩
        · rename_i e2 C hC D hD
          have sm6 := sm5.trans (same_new (o := .lst []) hC)
          · refine q D _ ps (sm6.trans (same_new hD)) (sm6.free hD) ?_ b3 (by omega)
            show upd _ _ _ _ = _
            rw [upd_same, List.append_nil]
    · rename_i e
      obtain ⟨uk, hu1, hu2⟩ := hU
      obtain ⟨l0, us, v1, l1, l2, l3⟩ := hu2 _ p1
      have l1' : H l0 = some (.lst (us.map V.int)) := l1
      refine ⟨u, .ref l0, rfl, by rw [← v1]; exact DGet.k (k := Sum.inl (p / 2)) hu1, ?_⟩
      walk_at "s"
      rename_i B hB
      refine lc_list (xs := us.map V.int) (fun j H3 => Same H H3 ∧ Ints H3 B ((us.take j).map fun x => 2 * x)) ?_ ?_ ?_ ?_
      · exact ⟨same_new hB, upd_same⟩
      · intro j H3 hj hP
        exact SqL.of (hP.1 _ _ l1)
      · intro j x H3 hj hP
        obtain ⟨sm, b1⟩ := hP
        obtain ⟨z, rfl, hz⟩ := map_get hj
        have hjl := (List.getElem?_eq_some_iff.mp hz).1
        walk_at "s"
        refine ⟨_, b1, sz_less (by simp only [List.length_map, List.length_take]; omega), same_mut sm hB, ?_⟩
        show upd _ _ _ _ = _
        rw [upd_same, take_snoc hz, List.map_append, List.map_append]
        rfl
      · intro H3 hP
        obtain ⟨sm, b1⟩ := hP
        rw [List.length_map, List.take_length] at b1
        have hf3 := sm _ _ hf
        walk_at "s"
        refine ⟨.inr ⟨_, .inl hf3⟩, ?_⟩
        walk_at "s"
        rename_i q1 hq1
        obtain ⟨o1, n1, g1, g2, g3⟩ := flow_get hfv (hp_new hf3 hq1) upd_same
        refine ⟨o1, g1, ?_⟩
        rw [g2]
        have nB : H B = none := hB
        have sm5 : Same H (upd H3 q1 (.tup [.int (p / 2), .int (p / 2)])) := sm.trans (same_new hq1)
        have b5 : upd H3 q1 (.tup [.int (p / 2), .int (p / 2)]) B = some (.lst ((us.map fun x => 2 * x).map V.int)) := hp_new b1 hq1
        have b6 : ((us.map fun x => 2 * x).map V.int).length ≤ 20 := by
          rw [List.length_map, List.length_map]
          exact l3
        have b7 : ∀ x ∈ us.map (fun x => 2 * x), 0 ≤ x ∧ x / 2 ∈ ls := by
          intro x hx
          obtain ⟨y, hy, rfl⟩ := List.mem_map.mp hx
          have := hls _ (l2 y hy)
          rw [show 2 * y / 2 = y from by omega]
          exact ⟨by omega, l2 y hy⟩
        rw [List.length_map] at b6
        walk_at "s"
        · rename_i e2 C hC D hD
          have sm6 := sm5.trans (same_new (o := .lst [.int (p - 1)]) hC)
          refine q D _ ((us.map fun x => 2 * x) ++ [p - 1]) (sm6.trans (same_new hD)) (sm6.free hD) ?_ ?_ (by rw [List.length_append, List.length_singleton]; omega)
          · show upd _ _ _ _ = _
            rw [upd_same, ← nums_snoc]
          · intro x hx
            rcases List.mem_append.mp hx with hx | hx
            · exact b7 x hx
            · rw [List.mem_singleton] at hx
              subst hx
              rw [show (p - 1) / 2 = p / 2 from by omega]
              exact ⟨by omega, p1⟩
        · rename_i e2 C hC D hD
          have sm6 := sm5.trans (same_new (o := .lst []) hC)
          refine q D _ (us.map fun x => 2 * x) (sm6.trans (same_new hD)) (sm6.free hD) ?_ b7 (by omega)
          show upd _ _ _ _ = _
          rw [upd_same, List.append_nil]
end
end K17W
set_option Elab.async false
set_option linter.all false
set_option maxRecDepth 100000
set_option maxHeartbeats 4000000
namespace K17W
open PySem PySem.Spec PyProof.Rows L2 TL LW NT
local macro_rules | `(tactic| walk_at "ne") => `(tactic| first
  | (with_reducible assumption)
  | exact Ne.symm (by assumption)
  | (with_reducible exact ne_of_none (by assumption) (by assumption))
  | (with_reducible exact (ne_of_none (by assumption) (by assumption)).symm)
  | (apply ne_of_none; (case h' => assumption); (case h => walk_at "hp"))
  | (apply Ne.symm; apply ne_of_none; (case h' => assumption); (case h => walk_at "hp")))
local macro_rules | `(tactic| walk_at "hp") => `(tactic| first
  | (with_reducible assumption)
  | exact upd_same
  | (with_reducible exact hp_new (by assumption) (by assumption))
  | (apply hp_new; (case n => assumption); (case h => walk_at "hp"))
  | (refine (upd_ne ?ne).trans ?hp; (case ne => walk_at "ne"); (case hp => walk_at "hp")))
local macro_rules | `(tactic| walk_at "sq") => `(tactic| first
  | ((with_reducible show SqL _ _ _ _); assumption)
  | ((with_reducible show SqT _ _ _ _); assumption)
  | exact SqL.of (by assumption)
  | exact SqL.of upd_same
  | exact SqT.of (by assumption)
  | exact SqT.of upd_same
  | (apply SqL.of; walk_at "hp")
  | (apply SqT.of; walk_at "hp"))
local macro_rules | `(tactic| walk_at "len") => `(tactic| first
  | (with_reducible assumption)
  | exact sz_small (by omega)
  | exact sz_less (by omega)
  | decide
  | (refine sz_small ?_; simp only [List.length_append, List.length_cons, List.length_nil, List.length_map, str_len]; omega)
  | (refine sz_less ?_; simp only [List.length_append, List.length_cons, List.length_nil, List.length_map, str_len]; omega))
local macro_rules | `(tactic| walk_at "cond") => `(tactic| first
  | omega
  | (split <;> omega)
  | (with_reducible assumption)
  | exact .inl ⟨by omega, by omega⟩
  | exact .inr ⟨by omega, by omega⟩
  | exact ⟨by omega, by omega⟩
  | (show (0 : Int) < _; omega)
  | (show (0 : Int) < _; decide +kernel)
  | exact ⟨by omega, by omega, by decide⟩
  | walk_at "len"
  | rfl
  | (show CMulW _ _; unfold CMulW; decide +kernel)
  | exact ⟨_, rfl⟩
  | decide +kernel
  | exact ⟨_, by walk_at "sq"⟩
  | exact .inl ⟨rfl, _, by walk_at "sq"⟩)
local macro_rules | `(tactic| walk_at "at") => `(tactic| first
  | (with_reducible assumption)
  | exact atI_nat (by assumption)
  | exact atI_last _ _
  | exact atI_nat (j := 0) rfl
  | exact atI_nat (j := 1) rfl
  | exact atI_nat (j := 2) rfl
  | exact atI_nat (j := 3) rfl
  | exact atI_nat (j := 4) rfl)
local macro_rules | `(tactic| walk_at "ix") => `(tactic| first
  | (with_reducible assumption)
  | (with_reducible exact ixN_0 (by simp; done))
  | (with_reducible exact ixN_1 (by simp; done))
  | (with_reducible exact ixN_2 (by simp; done))
  | (with_reducible exact Evl.ixN_nat (by assumption))
  | (with_reducible exact Evl.ixN_nat (by omega)))
local macro_rules | `(tactic| walk_at "v") => `(tactic| first
  | exact val_var rfl
  | (with_reducible exact val_c)
  | (with_reducible apply val_orV; (case ha => walk_at "v"); (case hb => walk_at "v"))
  | (with_reducible apply val_andV; (case ha => walk_at "v"); (case hb => walk_at "v"))
  | (with_reducible apply val_notV; walk_at "v")
  | (with_reducible apply val_ifS; (case h => walk_at "w"); (case ha => walk_at "v"); (case hb => walk_at "v"))
  | (with_reducible apply val_ifI; (case h => walk_at "w"); (case ha => walk_at "v"); (case hb => walk_at "v"))
  | (with_reducible apply val_ifB; (case h => walk_at "w"); (case ha => walk_at "v"); (case hb => walk_at "v"))
  | (with_reducible apply val_eqS; (case ha => walk_at "v"); (case hb => walk_at "v"))
  | (with_reducible apply val_eqI; (case ha => walk_at "v"); (case hb => walk_at "v"))
  | (with_reducible apply val_neS; (case ha => walk_at "v"); (case hb => walk_at "v"))
  | (with_reducible apply val_neI; (case ha => walk_at "v"); (case hb => walk_at "v"))
  | (with_reducible apply val_op; (case ha => walk_at "v"); (case hb => walk_at "v"); (case hr => exact fun Q q => ⟨_, _, rfl, rfl, q⟩)))
local macro_rules | `(tactic| walk_at "w") => `(tactic| first
  | (with_reducible apply ans_or2; (case h1 => walk_at "w"); (case h2 => walk_at "w"))
  | (with_reducible apply ans_and2; (case h1 => walk_at "w"); (case h2 => walk_at "w"))
  | (with_reducible apply ans_not; walk_at "w")
  | (with_reducible apply ans_test; walk_at "v")
  | (with_reducible apply ans_val; walk_at "v"))
local macro_rules | `(tactic| walk_at "s2") => `(tactic| first
  | refine ⟨_, rfl, ?_⟩
  | refine ⟨_, _, rfl, rfl, ?_⟩
  | (refine And.intro ?cc ?_; (case cc => walk_at "cond"))
  | refine ⟨_, _, _, _, rfl, rfl, by walk_at "sq", by walk_at "at", ?_⟩
  | refine ⟨_, _, _, _, rfl, rfl, by walk_at "hp", by walk_at "ix", ?_⟩
  | refine ⟨_, _, _, _, rfl, rfl, by walk_at "hp", by walk_at "hp", by walk_at "len", ?_⟩
  | refine ⟨_, _, _, rfl, rfl, by walk_at "len", by walk_at "at", ?_⟩
  | refine ⟨_, _, _, rfl, rfl, by walk_at "hp", by walk_at "len", ?_⟩
  | refine ⟨_, _, _, rfl, rfl, by walk_at "hp", by walk_at "at", ?_⟩
  | refine ⟨_, _, rfl, rfl, by walk_at "sq", ?_⟩
  | refine ⟨_, _, rfl, rfl, by walk_at "len", ?_⟩
  | refine ⟨_, _, rfl, by walk_at "sq", ?_⟩
  | refine ⟨_, _, rfl, .inl (by walk_at "sq"), ?_⟩
  | refine ⟨_, _, rfl, .inr (by walk_at "sq"), ?_⟩
  | refine ⟨_, _, rfl, by walk_at "sq", rfl, ?_⟩
  | refine ⟨_, fun _ _ h => h, ?_⟩
  | refine .inl ⟨_, rfl, ?_⟩
  | refine ⟨_, _, .type "int", .type _, true, rfl, ClsV.ty _, .base (.int _), kit_ty (by decide +kernel), ?_⟩
  | refine ⟨_, _, .type "int", .type _, false, rfl, ClsV.ty _, .base (.int _), kit_ty (by decide +kernel), ?_⟩
  | refine ⟨_, _, .type "bool", .type _, true, rfl, ClsV.ty _, .base (.bl _), kit_ty (by decide +kernel), ?_⟩
  | refine ⟨_, _, .type "bool", .type _, false, rfl, ClsV.ty _, .base (.bl _), kit_ty (by decide +kernel), ?_⟩
  | refine ⟨_, _, .type "str", .type _, true, rfl, ClsV.ty _, .base (.str _), kit_ty (by decide +kernel), ?_⟩
  | refine ⟨_, _, .type "str", .type _, false, rfl, ClsV.ty _, .base (.str _), kit_ty (by decide +kernel), ?_⟩
  | refine ⟨_, _, .type "NoneType", .type _, true, rfl, ClsV.ty _, .base (.non), kit_ty (by decide +kernel), ?_⟩
  | refine ⟨_, _, .type "NoneType", .type _, false, rfl, ClsV.ty _, .base (.non), kit_ty (by decide +kernel), ?_⟩
  | refine ⟨_, _, .type "list", .type _, true, rfl, ClsV.ty _, .base (.lst (by walk_at "hp")), kit_ty (by decide +kernel), ?_⟩
  | refine ⟨_, _, .type "list", .type _, false, rfl, ClsV.ty _, .base (.lst (by walk_at "hp")), kit_ty (by decide +kernel), ?_⟩
  | refine ⟨_, _, .type "tuple", .type _, true, rfl, ClsV.ty _, .base (.tup (by walk_at "hp")), kit_ty (by decide +kernel), ?_⟩
  | refine ⟨_, _, .type "tuple", .type _, false, rfl, ClsV.ty _, .base (.tup (by walk_at "hp")), kit_ty (by decide +kernel), ?_⟩
  | fail)
local macro_rules | `(tactic| walk_at "s1") => `(tactic| first
  | (with_reducible refine go_gcons ?_)
  | (with_reducible refine go_gnil ?_)
  | (with_reducible refine go_seqM ?_)
  | (with_reducible refine go_nextM ?_)
  | (with_reducible refine go_contM ?_)
  | (with_reducible refine go_brkM ?_)
  | (with_reducible refine go_retM ?_)
  | (with_reducible refine go_asgM ?_)
  | (with_reducible refine go_test ?_)
  | (with_reducible refine go_rI0 ?_)
  | (with_reducible refine go_op ?_)
  | (with_reducible refine go_var rfl ?_)
  | ((with_reducible show tFor (iRng1 _) _ _ _ _ _); refine (show iRng1 _ _ _ _ from ?_))
  | (with_reducible refine go_rng1 ?_)
  | (with_reducible refine go_c ?_)
  | (with_reducible apply go_pick; (case hs => walk_at "hp"); (case h0 => walk_at "cond"); (case h1 => walk_at "cond"); (case' q => intro k a b c h0 h1))
  | (with_reducible refine go_nil ?_)
  | (with_reducible refine go_cons ?_)
  | (with_reducible refine go_call ?_)
  | (with_reducible refine go_cb ?_)
  | (with_reducible refine go_next ?_)
  | (with_reducible refine go_cont ?_)
  | (with_reducible refine go_ret ?_)
  | (with_reducible refine go_name ?_)
  | (with_reducible refine go_seq ?_)
  | (with_reducible refine go_asg ?_)
  | (with_reducible apply go_or; (case h => walk_at "v"))
  | (with_reducible apply go_and; (case h => walk_at "v"))
  | (with_reducible apply go_andL; (case h => walk_at "v"); (case' h1 => intro e); (case' h2 => intro e))
  | (with_reducible apply go_orL; (case h => walk_at "v"); (case' h1 => intro e); (case' h2 => intro e))
  | (with_reducible apply go_ifE; (case h => walk_at "v"))
  | (with_reducible apply go_ifOr; (case h => walk_at "w"); (case' h1 => intro e); (case' h2 => intro e))
  | (with_reducible apply go_ifAnd; (case h => walk_at "w"); (case' h1 => intro e); (case' h2 => intro e))
  | (with_reducible refine go_min ?_)
  | (with_reducible refine iteT ?_)
  | (with_reducible refine iteF ?_)
  | (with_reducible refine iteD (fun _ => ?_) (fun e => absurd rfl e))
  | (with_reducible refine iteS (fun e => ?_) (fun e => ?_))
  | (with_reducible refine iteI (fun e => ?_) (fun e => ?_))
  | (with_reducible refine iteSn (fun e => ?_) (fun e => ?_))
  | (with_reducible refine iteIn (fun e => ?_) (fun e => ?_))
  | (with_reducible refine iteD (fun e => ?_) (fun e => ?_))
  | (with_reducible refine iteDn (fun e => ?_) (fun e => ?_))
  | (with_reducible refine ite2 (fun e => ?_) (fun e => ?_))
  | (refine fun (p : Addr) (hp : _ = none) => ?_)
  | ((conv => whnf); walk_at "s2")
  | fail)
local macro_rules | `(tactic| walk_at "s") => `(tactic| repeat' (first
  | (with_reducible refine go_gcons ?_)
  | (with_reducible refine go_gnil ?_)
  | (with_reducible refine go_seqM ?_)
  | (with_reducible refine go_nextM ?_)
  | (with_reducible refine go_contM ?_)
  | (with_reducible refine go_brkM ?_)
  | (with_reducible refine go_retM ?_)
  | (with_reducible refine go_asgM ?_)
  | (with_reducible refine go_test ?_)
  | (with_reducible refine go_rI0 ?_)
  | (with_reducible refine go_op ?_)
  | (with_reducible refine go_var rfl ?_)
  | ((with_reducible show tFor (iRng1 _) _ _ _ _ _); refine (show iRng1 _ _ _ _ from ?_))
  | (with_reducible refine go_rng1 ?_)
  | (with_reducible refine go_c ?_)
  | (with_reducible apply go_pick; (case hs => walk_at "hp"); (case h0 => walk_at "cond"); (case h1 => walk_at "cond"); (case' q => intro k a b c h0 h1))
  | (with_reducible refine go_nil ?_)
  | (with_reducible refine go_cons ?_)
  | (with_reducible refine go_call ?_)
  | (with_reducible refine go_cb ?_)
  | (with_reducible refine go_next ?_)
  | (with_reducible refine go_cont ?_)
  | (with_reducible refine go_ret ?_)
  | (with_reducible refine go_name ?_)
  | (with_reducible refine go_seq ?_)
  | (with_reducible refine go_asg ?_)
  | (with_reducible apply go_or; (case h => walk_at "v"))
  | (with_reducible apply go_and; (case h => walk_at "v"))
  | (with_reducible apply go_andL; (case h => walk_at "v"); (case' h1 => intro e); (case' h2 => intro e))
  | (with_reducible apply go_orL; (case h => walk_at "v"); (case' h1 => intro e); (case' h2 => intro e))
  | (with_reducible apply go_ifE; (case h => walk_at "v"))
  | (with_reducible apply go_ifOr; (case h => walk_at "w"); (case' h1 => intro e); (case' h2 => intro e))
  | (with_reducible apply go_ifAnd; (case h => walk_at "w"); (case' h1 => intro e); (case' h2 => intro e))
  | (with_reducible refine go_min ?_)
  | (with_reducible refine iteT ?_)
  | (with_reducible refine iteF ?_)
  | (with_reducible refine iteD (fun _ => ?_) (fun e => absurd rfl e))
  | (with_reducible refine iteS (fun e => ?_) (fun e => ?_))
  | (with_reducible refine iteI (fun e => ?_) (fun e => ?_))
  | (with_reducible refine iteSn (fun e => ?_) (fun e => ?_))
  | (with_reducible refine iteIn (fun e => ?_) (fun e => ?_))
  | (with_reducible refine iteD (fun e => ?_) (fun e => ?_))
  | (with_reducible refine iteDn (fun e => ?_) (fun e => ?_))
  | (with_reducible refine ite2 (fun e => ?_) (fun e => ?_))
  | (refine fun (p : Addr) (hp : _ = none) => ?_)
  | ((conv => whnf); walk_at "s2")
  | fail))

/-! ### what stands in the dicts -/
theorem UsersAt.same {H H' : Hp} (e : Same H H') {u : Addr} {ls : List Int} : UsersAt H u ls → UsersAt H' u ls := fun ⟨kvs, h1, h2⟩ => ⟨kvs, e _ _ h1, fun x hx => by
  obtain ⟨l, us, a, b, c, d⟩ := h2 x hx
  exact ⟨l, us, a, e _ _ b, c, d⟩⟩
def Has (ck : List (Key × V)) (p : Int) : Prop := (valV ck (Sum.inl p : Key)).isSome = true
theorem Has.put {ck : List (Key × V)} {p x : Int} {y : V} (h : Has ck p) : Has (putK ck (Sum.inl x) y) p := by
  unfold Has
  rw [valV_put]
  split
  · rfl
  · exact h
theorem Has.new {ck : List (Key × V)} {x : Int} {y : V} : Has (putK ck (Sum.inl x) y) x := by
  unfold Has
  rw [valV_put, if_pos rfl]
  rfl
theorem Has.val {ck : List (Key × V)} {p : Int} (h : Has ck p) : ∃ v, valV ck (Sum.inl p : Key) = some v := by
  unfold Has at h
  cases e : valV ck (Sum.inl p : Key) with
  | none => rw [e] at h; cases h
  | some v => exact ⟨v, rfl⟩
def CameK (ls : List Int) (ck : List (Key × V)) : Prop := ∀ (k : Key) (v : V), valV ck k = some v → ∃ x c : Int, k = Sum.inl x ∧ v = .int c ∧ 0 ≤ x ∧ x / 2 ∈ ls ∧ (c = -1 ∨ (0 ≤ c ∧ Has ck c))
theorem CameK.nil {ls : List Int} : CameK ls [] := fun k v e => by cases e
theorem CameK.put {ls : List Int} {ck : List (Key × V)} (h : CameK ls ck) {x c : Int} (hx : 0 ≤ x) (hl : x / 2 ∈ ls) (hc : c = -1 ∨ (0 ≤ c ∧ Has ck c)) : CameK ls (putK ck (Sum.inl x) (.int c)) := fun k v e => by
  rw [valV_put] at e
  by_cases hk : k = Sum.inl x
  · rw [if_pos hk] at e
    cases e
    exact ⟨x, c, hk, rfl, hx, hl, hc.imp id fun h => ⟨h.1, h.2.put⟩⟩
  · rw [if_neg hk] at e
    obtain ⟨x', c', e1, e2, e3, e4, e5⟩ := h k v e
    exact ⟨x', c', e1, e2, e3, e4, e5.imp id fun h => ⟨h.1, h.2.put⟩⟩
theorem CameK.at {ls : List Int} {ck : List (Key × V)} (h : CameK ls ck) {p : Int} (hp : Has ck p) : 0 ≤ p ∧ p / 2 ∈ ls ∧ ∃ c : Int, valV ck (Sum.inl p : Key) = some (.int c) ∧ (c = -1 ∨ (0 ≤ c ∧ Has ck c)) := by
  obtain ⟨v, hv⟩ := hp.val
  obtain ⟨x, c, e1, e2, e3, e4, e5⟩ := h _ _ hv
  cases e1
  exact ⟨e3, e4, c, by rw [hv, e2], e5⟩
def FlowK (ls : List Int) (fk : List (List Key × V)) : Prop := ∀ (k : List Key) (v : V), valV fk k = some v → ∃ a b n : Int, k = [.inl a, .inl b] ∧ v = .int n ∧ (a = -1 ∨ a ∈ ls)
theorem FlowK.nil {ls : List Int} : FlowK ls [] := fun k v e => by cases e
theorem FlowK.put {ls : List Int} {fk : List (List Key × V)} (h : FlowK ls fk) {x y n : Int} (hx : x = -1 ∨ x ∈ ls) : FlowK ls (putK fk [Sum.inl x, Sum.inl y] (.int n)) := fun k v e => by
  rw [valV_put] at e
  by_cases hk : k = [Sum.inl x, Sum.inl y]
  · rw [if_pos hk] at e
    cases e
    exact ⟨x, y, n, hk, rfl, hx⟩
  · rw [if_neg hk] at e
    exact h k v e
/-- the users while they are laid -/
def UsB (H1 H2 : Hp) (u : Addr) (ls : List Int) (m : Nat) (ok : List Int → Prop) : Prop := H1 u = none ∧ ∃ kvs : List (Key × V), H2 u = some (.dK kvs) ∧ kvs.length ≤ m ∧ (∀ x ∈ ls.take m, Has kvs x) ∧
  ∀ (k : Key) (v : V), valV kvs k = some v → ∃ (l : Addr) (us : List Int), v = .ref l ∧ H1 l = none ∧ Ints H2 l us ∧ (∀ y ∈ us, y ∈ ls) ∧ ok us
section
variable {P : Program} {w : World} {K : PySem.W.Frag} {mg : Str → Option Value} {base : Heap}
/-! ### a greatest flow: that it comes to an end, with three things told -/
def spFlow (K : PySem.W.Frag) : Sp := fun vs H Q _ => ∃ (a k : Addr) (rs : List Rw) (ks : List Int), vs = [.ref a, .ref k] ∧ RowsT H a rs ∧ WF rs ∧ rs.length ≤ 20 ∧ Ints H k ks ∧
  ∀ (t F C : Addr) (n : Int) (ck : List (Key × V)) (H' : Hp), Same H H' → H' t = some (.tup [.int n, .ref F, .ref C]) → H' C = some (.dK ck) → Q (.ref t) H'
theorem ok_flow (T : Top w K mg) : FnOk P w K mg base CX0 3 T.a_law_c_flow T.d_law_c_flow ["rows", "wanted"] (spFlow K) := by
  have G_law_c_living := ok_living (P := P) (w := w) (base := base) T
  have G_law_c_weight := ok_weight (P := P) (w := w) (base := base) T
  have G_law_c_next := ok_next (P := P) (w := w) (base := base) T
  refine T.F_law_c_flow.ok sc_law_c_flow (fun vs H Q E h => ?_) (fun cdv A outer s H vs Q E hr h => ?_)
  · obtain ⟨a, k, rs, ks, rfl, _⟩ := h
    rfl
  · obtain ⟨a, k, rs, ks, rfl, hR, hW, hn, hk, q⟩ := h
    have hu := hu_of hr
    refine ⟨_, (pss_cons (ps_set (i := 2) sc_law_c_flow.nd rfl (.inl rfl) (pe_call G_law_c_living (hr.mono (by omega)) (by rfl) T.m_law_c_living T.F_law_c_living.kp T.b_law_c_living .nil pass0 (pa_cons (pv 0) (pa_cons (pv 1) pa_nil))))
    (pss_cons (ps_set (i := 3) sc_law_c_flow.nd rfl (.inl rfl) pe_dnewK)
    (pss_cons (ps_for PassesOwn.never rfl (pi_list (pv 2)) (pg_name (i := 4) sc_law_c_flow.nd rfl (.inl rfl))
    (pss_cons (ps_dput hu (pv 3) (pv 4) (pe_lst pa_nil) rfl)
    (pss_one (ps_for PassesOwn.never rfl (pi_tup (pe_ix ix_tup (pe_ix ix_list (pv 0) (pv 4) (fun _ _ => rfl)) pe_int (fun _ _ => rfl))) (pg_name (i := 5) sc_law_c_flow.nd rfl (.inl rfl))
    (pss_one (ps_if (PW.pt (pw_and (pt_cmp (pc_din hu (pv 5) (pv 3))) (pw_and1 (pt_cmpR op_notIn_seq (pv 4) (pe_dget hu (pv 3) (pv 5) (fun _ _ => rfl)) (by rfl)))))
    (pss_one (ps_expr (pe_bm PySem.F.plainAttrs_list PySem.F.slot_list_append PySem.F.type_list_append mt_append (pe_dget hu (pv 3) (pv 5) (fun _ _ => rfl)) (pa_cons (pv 4) pa_nil))))
    pss_nil))))))
    (pss_cons (ps_set (i := 6) sc_law_c_flow.nd rfl (.inl rfl) pe_dnewT)
    (pss_cons (ps_set (i := 7) sc_law_c_flow.nd rfl (.inl rfl) pe_int)
    (pss_cons (ps_for PassesOwn.never rfl (pi_range1 rfl T.m_range (pa_cons (pe_op op_add pe_int (pe_call G_law_c_weight (hr.mono (by omega)) (by rfl) T.m_law_c_weight T.F_law_c_weight.kp T.b_law_c_weight .nil pass0 (pa_cons (pv 0) (pa_cons (pv 2) pa_nil)))) pa_nil)) (pg_name (i := 8) sc_law_c_flow.nd rfl (.inl rfl))
    (pss_cons (ps_setLc (i := 9) (own := [("node", 4)]) rfl sc_law_c_flow.nd rfl rfl (sw_true rfl rfl rfl (by decide +kernel)) (pi_list (pv 2)) (blkOk_by (own := [("node", 4)]) (N := ["rows", "wanted", "living", "users", "node", "operand", "flow", "number", "turn", "queue", "came", "point", "last", "here", "there", "step", "before", "pair", "back"]) (sc := defScope s_law_c_flow) (by decide +kernel)) (fun _ _ _ _ _ => (pg_name (i := 4) sc_law_c_flow.nd rfl (.inl rfl))) (fun _ _ _ _ _ => pts_one (pt_val (pe_ix (ix_tupB (K := K) rfl) (pe_ix (ix_listB (K := K) rfl) (pv 0) (pv 4) (fun _ _ => rfl)) pe_int (fun _ _ => rfl)))) (fun _ _ _ _ _ => (pe_op op_mul pe_int (pv 4))))
    (pss_cons (ps_set (i := 10) sc_law_c_flow.nd rfl (.inl rfl) pe_dnewK)
    (pss_cons (ps_for PassesOwn.never rfl (pi_list (pv 9)) (pg_name (i := 11) sc_law_c_flow.nd rfl (.inl rfl))
    (pss_one (ps_dput hu (pv 10) (pv 11) (pe_un un_neg pe_int) rfl)))
    (pss_cons (ps_set (i := 12) sc_law_c_flow.nd rfl (.inl rfl) (pe_un un_neg pe_int))
    (pss_cons (ps_for PassesOwn.never rfl (pi_range1 rfl T.m_range (pa_cons (pe_op op_add (pe_op op_mul pe_int (pe_callB call_len_seq (by rfl) T.m_len (by decide +kernel) (pa_cons (pv 2) pa_nil))) pe_int) pa_nil)) (pg_name (i := 11) sc_law_c_flow.nd rfl (.inl rfl))
    (pss_one (ps_if (PW.pt (pw_and (pt_cmpR op_lt (pv 11) (pe_callB call_len_seq (by rfl) T.m_len (by decide +kernel) (pa_cons (pv 9) pa_nil)) (nomark _)) (pw_and1 (pt_cmpR op_lt (pv 12) pe_int (nomark _)))))
    (pss_cons (ps_set (i := 13) sc_law_c_flow.nd rfl (.inl rfl) (pe_ix ix_list (pv 9) (pv 11) (fun _ _ => rfl)))
    (Evl.pss_cut (ps_if (PW.pt (pw_and (pt_cmpR op_ne (pe_op op_mul (pe_op op_fdiv (pv 13) pe_int) pe_int) (pv 13) (nomark _)) (pw_and1 (pt_cmpR op_in_seq (pe_op op_fdiv (pv 13) pe_int) (pv 1) (by rfl)))))
    (pss_one (ps_set (i := 12) sc_law_c_flow.nd rfl (.inl rfl) (pv 13)))
    pss_nil)
    (pss_one (ps_for PassesOwn.never rfl (pi_list (pe_call G_law_c_next (hr.mono (by omega)) (by rfl) T.m_law_c_next T.F_law_c_next.kp T.b_law_c_next .nil pass0 (pa_cons (pv 0) (pa_cons (pv 1) (pa_cons (pv 2) (pa_cons (pv 3) (pa_cons (pv 6) (pa_cons (pv 13) pa_nil)))))))) (pg_name (i := 14) sc_law_c_flow.nd rfl (.inl rfl))
    (pss_one (ps_if (pt_cmp (pc_dnotin hu (pv 14) (pv 10)))
    (pss_cons (ps_dput hu (pv 10) (pv 14) (pv 13) rfl)
    (pss_one (ps_expr (pe_bm PySem.F.plainAttrs_list PySem.F.slot_list_append PySem.F.type_list_append mt_append (pv 9) (pa_cons (pv 14) pa_nil)))))
    pss_nil))))))
    pss_nil)))
    (pss_cons (ps_if (pt_cmpR op_lt (pv 12) pe_int (nomark _))
    (pss_one (ps_ret (pe_tup (pa_cons (pv 7) (pa_cons (pv 6) (pa_cons (pv 10) pa_nil))))))
    pss_nil)
    (pss_cons (ps_aug (i := 7) sc_law_c_flow.nd rfl (.inl rfl) pe_int ip_add)
    (pss_cons (ps_dput hu (pv 6) (pe_tup (pa_cons (pe_op op_fdiv (pv 12) pe_int) (pa_cons (pe_un un_neg pe_int) pa_nil))) (pe_op op_add (pe_dget2 hu (pv 6) (pe_tup (pa_cons (pe_op op_fdiv (pv 12) pe_int) (pa_cons (pe_un un_neg pe_int) pa_nil))) pe_int ⟨rfl, rfl, rfl, rfl⟩) pe_int) rfl)
    (pss_one (ps_for PassesOwn.never rfl (pi_range1 rfl T.m_range (pa_cons (pe_op op_add (pe_op op_mul pe_int (pe_callB call_len_seq (by rfl) T.m_len (by decide +kernel) (pa_cons (pv 2) pa_nil))) pe_int) pa_nil)) (pg_name (i := 15) sc_law_c_flow.nd rfl (.inl rfl))
    (pss_one (ps_if (pt_cmpR op_ge (pv 12) pe_int (nomark _))
    (pss_cons (ps_set (i := 16) sc_law_c_flow.nd rfl (.inl rfl) (pe_dget hu (pv 10) (pv 12) (fun _ _ => rfl)))
    (Evl.pss_cut (ps_set (i := 17) sc_law_c_flow.nd rfl (.inl rfl) (pe_ifExp (pt_cmpR op_ge (pv 16) pe_int (nomark _)) (pe_tup (pa_cons (pe_op op_fdiv (pv 16) pe_int) (pa_cons (pe_op op_fdiv (pv 12) pe_int) pa_nil))) (pe_tup (pa_cons (pe_un un_neg pe_int) (pa_cons (pe_op op_fdiv (pv 12) pe_int) pa_nil)))))
    (Evl.pss_cut (ps_set (i := 18) sc_law_c_flow.nd rfl (.inl rfl) (pe_and (pe_cmpR op_ge (pv 16) pe_int (nomark _)) (pe_one (pe_cmpR op_eq (pe_cmpR op_eq (pv 12) (pe_op op_mul pe_int (pe_ix ix_tup (pv 17) pe_int (fun _ _ => rfl))) (nomark _)) (pe_cmpR op_eq (pe_ix ix_tup (pv 17) pe_int (fun _ _ => rfl)) (pe_ix ix_tup (pv 17) pe_int (fun _ _ => rfl)) (nomark _)) (nomark _)))))
    (Evl.pss_cut (ps_if (PW.pt (pw_and (pt_val (pv 18)) (pw_and1 (pt_cmpR op_ne (pe_ix ix_tup (pv 17) pe_int (fun _ _ => rfl)) (pe_ix ix_tup (pv 17) pe_int (fun _ _ => rfl)) (nomark _)))))
    (pss_one (ps_set (i := 17) sc_law_c_flow.nd rfl (.inl rfl) (pe_tup (pa_cons (pe_ix ix_tup (pv 17) pe_int (fun _ _ => rfl)) (pa_cons (pe_ix ix_tup (pv 17) pe_int (fun _ _ => rfl)) pa_nil)))))
    pss_nil)
    (pss_cons (ps_dput hu (pv 6) (pv 17) (pe_op op_add (pe_dget2 hu (pv 6) (pv 17) pe_int ⟨rfl, rfl, rfl, rfl⟩) (pe_ifExp (pt_val (pv 18)) (pe_un un_neg pe_int) pe_int)) rfl)
    (pss_one (ps_set (i := 12) sc_law_c_flow.nd rfl (.inl rfl) (pv 16))))))))
    pss_nil)))))))))))))
    (pss_one (ps_ret (pe_tup (pa_cons (pv 7) (pa_cons (pv 6) (pa_cons pe_dnewK pa_nil)))))))))))), ?_⟩
    walk_at "s"
    refine ⟨a, k, rs, ks, rfl, hR, hW, hn, hk, fun lv H1 ls sm1 nlv hlv hls hll => ?_⟩
    walk_at "s"
    rename_i u nu
    have hlv' : H1 lv = some (.lst (ls.map V.int)) := hlv
    have hll2 : (ls.map V.int).length ≤ 20 := by
      rw [List.length_map]
      exact hll
    obtain ⟨xs, hX, hE⟩ := hR.same sm1
    have hXl := hE.len
    refine for_listQ (xs := ls.map V.int) Q rfl (fun i σ H2 => ∃ v4 v5 : Option V, σ = [some (.ref a), some (.ref k), some (.ref lv), some (.ref u), v4, v5, none, none, none, none, none, none, none, none, none, none, none, none, none] ∧ Same H1 H2 ∧ UsB H1 H2 u ls i fun us => us.length ≤ i) ?_ ?_ ?_ ?_
    · exact ⟨_, _, rfl, same_new nu, nu, [], upd_same, Nat.le_refl _, by simp, fun k v e => by cases e⟩
    · intro i σ H2 hi hP
      obtain ⟨v4, v5, rfl, sm, _⟩ := hP
      exact SqL.of (sm _ _ hlv')
    · intro N X i x σ H2 hi hP hN
      obtain ⟨v4, v5, rfl, sm, nu, kvs, h1, h2, h3, h4⟩ := hP
      obtain ⟨z, rfl, hz⟩ := map_get hi
      obtain ⟨z0, z1⟩ := hls z (List.mem_of_getElem? hz)
      have hil := (List.getElem?_eq_some_iff.mp hz).1
      have er : rs[z.toNat]? = some rs[z.toNat] := List.getElem?_eq_getElem (by omega)
      obtain ⟨u0, eu, t, o, rfl, ht, ho⟩ := hE.get er
      have hat : atI xs z = some (.ref t) := by
        rw [show z = ((z.toNat : Nat) : Int) from by omega]
        exact atI_nat eu
      have nau : a ≠ u := ne_of_none hX nu
      have ntu : t ≠ u := ne_of_none ht nu
      have nou : o ≠ u := ne_of_none ho nu
      have hX2 := sm _ _ hX
      have ht2 := sm _ _ ht
      have ho2 : H2 o = some (.tup (rs[z.toNat].ops.map V.int)) := sm _ _ ho
      walk_at "s"
      rename_i L hL
      refine ⟨u, _, rfl, DPut.k (k := Sum.inl z) (by walk_at "hp") (sz_less (by omega)), ?_⟩
      have nLu : L ≠ u := (ne_of_none h1 hL).symm
      have smL : Same H1 (upd (upd H2 L (.lst [])) u (.dK (putK kvs (Sum.inl z) (.ref L)))) := same_mut (sm.trans (same_new hL)) nu
      have hok := hW _ _ er
      walk_at "s"
      refine for_tupQ (xs := rs[z.toNat].ops.map V.int) Q rfl (fun j σ H3 => ∃ v5 : Option V, σ = [some (.ref a), some (.ref k), some (.ref lv), some (.ref u), some (.int z), v5, none, none, none, none, none, none, none, none, none, none, none, none, none] ∧ Same H1 H3 ∧
        UsB H1 H3 u ls (i + 1) fun us => us.length ≤ i ∨ (us.length ≤ i + 1 ∧ z ∈ us)) ?_ ?_ ?_ ?_
      · refine ⟨_, rfl, smL, nu, _, upd_same, ?_, ?_, fun k v e => ?_⟩
        · have := putK_le kvs (Sum.inl z) (.ref L)
          omega
        · intro x hx
          rw [take_snoc hz] at hx
          rcases List.mem_append.mp hx with hx | hx
          · exact (h3 x hx).put
          · rw [List.mem_singleton] at hx
            subst hx
            exact Has.new
        · rw [valV_put] at e
          by_cases hk : k = Sum.inl z
          · rw [if_pos hk] at e
            cases e
            exact ⟨L, [], rfl, sm.free hL, (upd_ne nLu).trans upd_same, by simp, .inl (Nat.zero_le _)⟩
          · rw [if_neg hk] at e
            obtain ⟨l, us, e1, e2, e3, e4, e5⟩ := h4 k v e
            have nlu : l ≠ u := ne_of e3 h1 (by intro z; cases z)
            exact ⟨l, us, e1, e2, (upd_ne nlu).trans (hp_new e3 hL), e4, .inl e5⟩
      · intro j σ H3 hj hP
        obtain ⟨v5, rfl, sm3, _⟩ := hP
        exact SqT.of (sm3 _ _ ho)
      · intro N2 X2 j x σ H3 hj hP hN2
        obtain ⟨v5, rfl, sm3, _, kvs, g1, g2, g3, g4⟩ := hP
        obtain ⟨y, rfl, hy⟩ := map_get hj
        walk_at "s"
        refine ⟨u, _, rfl, DGet.k (k := Sum.inl y) g1, ?_⟩
        cases ey : valV kvs (Sum.inl y : Key) with
        | none =>
          rw [show (none : Option V).isSome = false from rfl]
          walk_at "s"
          exact hN2 _ _ ⟨_, rfl, sm3, nu, kvs, g1, g2, g3, g4⟩
        | some v =>
          obtain ⟨l, us, rfl, nl, hl, hus, hlen⟩ := g4 _ _ ey
          have hl' : H3 l = some (.lst (us.map V.int)) := hl
          have hul : us.length ≤ i + 1 := by
            rcases hlen with h | h
            · exact Nat.le_succ_of_le h
            · exact h.1
          have hzl : z ∈ ls := List.mem_of_getElem? hz
          rw [show (some (V.ref l)).isSome = true from rfl]
          walk_at "s"
          refine ⟨u, .ref l, rfl, by rw [← ey]; exact DGet.k (k := Sum.inl y) g1, ?_⟩
          walk_at "s"
          refine ⟨flat_ints, ?_⟩
          rw [show (if true = true then !inV (V.int z) (us.map V.int) else inV (V.int z) (us.map V.int)) = !inV (V.int z) (us.map V.int) from rfl, inV_int]
          refine ⟨_, rfl, ?_⟩
          by_cases e : z ∈ us
          · rw [decide_eq_true e]
            refine iteF ?_
            walk_at "s"
            exact hN2 _ _ ⟨_, rfl, sm3, nu, kvs, g1, g2, g3, g4⟩
          · rw [decide_eq_false e]
            refine iteT ?_
            have hul2 : us.length ≤ i := by
              rcases hlen with h | h
              · exact h
              · exact absurd h.2 e
            have hml : (us.map V.int).length ≤ 20 := by
              rw [List.length_map]
              omega
            walk_at "s"
            refine ⟨u, .ref l, rfl, by rw [← ey]; exact DGet.k (k := Sum.inl y) g1, ?_⟩
            walk_at "s"
            have nul : u ≠ l := ne_of g1 hl' (by intro z; cases z)
            refine hN2 _ _ ⟨_, rfl, same_mut sm3 nl, nu, kvs, (upd_ne nul).trans g1, g2, g3, fun k v e6 => ?_⟩
            obtain ⟨l', us', e1, e2, e3, e4, e5⟩ := g4 k v e6
            by_cases el : l' = l
            · subst el
              refine ⟨l', us ++ [z], e1, e2, ?_, ?_, .inr ⟨by simp; omega, by simp⟩⟩
              · show upd _ _ _ _ = _
                rw [upd_same, nums_snoc]
              · intro x hx
                rcases List.mem_append.mp hx with hx | hx
                · exact hus x hx
                · rw [List.mem_singleton] at hx
                  rw [hx]
                  exact hzl
            · exact ⟨l', us', e1, e2, (upd_ne el).trans e3, e4, e5⟩
      · intro σ H3 hP
        obtain ⟨v5, rfl, sm3, _, kvs, g1, g2, g3, g4⟩ := hP
        exact hN _ _ ⟨_, _, rfl, sm3, nu, kvs, g1, g2, g3, fun k v e => by
          obtain ⟨l, us, e1, e2, e3, e4, e5⟩ := g4 k v e
          exact ⟨l, us, e1, e2, e3, e4, by omega⟩⟩
    · intro σ H2 hP
      obtain ⟨v4, v5, rfl, sm, nu, kvs, h1, h2, h3, h4⟩ := hP
      rw [List.length_map, List.take_length] at h3
      have hU : UsersAt H2 u ls := ⟨kvs, h1, fun x hx => by
        obtain ⟨v, hv⟩ := (h3 x hx).val
        obtain ⟨l, us, e1, e2, e3, e4, e5⟩ := h4 _ _ hv
        rw [List.length_map] at e5
        exact ⟨l, us, by rw [hv, e1], e3, e4, by omega⟩⟩
      have hX2 := sm _ _ hX
      have hlv2 := sm _ _ hlv'
      have hR2 : RowsT H2 a rs := (hR.same sm1).same sm
      walk_at "s"
      rename_i F nF
      have hF0 : Same H2 (upd H2 F (.dT [])) := same_new nF
      have hlv3 := hF0 _ _ hlv2
      refine ⟨a, lv, rs, ls, rfl, hR2.same hF0, hlv3, hls, hll, hW, fun wn H3 sm3 w0 w1 => ?_⟩
      have hF3 := sm3 _ _ (upd_same (H := H2) (a := F) (o := .dT []))
      have sm23 : Same H2 H3 := hF0.trans sm3
      have hkH2 : H2 k = some (.lst (ks.map V.int)) := sm _ _ (sm1 _ _ hk)
      walk_at "s"
      refine for_rangeQ (lo := 0) (n := (1 + wn).toNat) Q rfl (fun i σ H4 => ∃ (v4 v5 v8 v9 v10 v11 v12 v13 v14 v15 v16 v17 v18 : Option V) (num : Int) (fk : List (List Key × V)),
        σ = [some (.ref a), some (.ref k), some (.ref lv), some (.ref u), v4, v5, some (.ref F), some (.int num), v8, v9, v10, v11, v12, v13, v14, v15, v16, v17, v18] ∧ Same H2 H4 ∧ H4 F = some (.dT fk) ∧ FlowK ls fk ∧ fk.length ≤ 100 * i) ?_ ?_ ?_
      · exact ⟨_, _, _, _, _, _, _, _, _, _, _, _, _, _, [], rfl, sm23, hF3, .nil, Nat.le_refl _⟩
      · intro N X i σ H4 hi hP hN
        obtain ⟨v4, v5, v8, v9, v10, v11, v12, v13, v14, v15, v16, v17, v18, num, fk, rfl, sm4, hF, hFK, hFl⟩ := hP
        have hlv4 := sm4 _ _ hlv2
        simp only [Int.zero_add]
        walk_at "s"
        rename_i B hB
        refine lc_list (xs := ls.map V.int) (fun j H5 => Same H4 H5 ∧ ∃ ps : List Int, Ints H5 B ps ∧ ps.length ≤ j ∧ ∀ p ∈ ps, 0 ≤ p ∧ p / 2 ∈ ls) ?_ ?_ ?_ ?_
        · exact ⟨same_new hB, [], upd_same, Nat.le_refl _, by simp⟩
        · intro j H5 hj hP
          exact SqL.of (hP.1 _ _ hlv4)
        · intro j x H5 hj hP
          obtain ⟨sm5, ps, b1, b2, b3⟩ := hP
          obtain ⟨z, rfl, hz⟩ := map_get hj
          have hzl : z ∈ ls := List.mem_of_getElem? hz
          obtain ⟨z0, z1⟩ := hls z hzl
          have hjl := (List.getElem?_eq_some_iff.mp hz).1
          have er : rs[z.toNat]? = some rs[z.toNat] := List.getElem?_eq_getElem (by omega)
          obtain ⟨u0, eu, t, o, rfl, ht, ho⟩ := hE.get er
          have hat : atI xs z = some (.ref t) := by
            rw [show z = ((z.toNat : Nat) : Int) from by omega]
            exact atI_nat eu
          have hX5 := sm5 _ _ (sm4 _ _ hX2)
          have ht5 := sm5 _ _ (sm4 _ _ (sm _ _ ht))
          walk_at "s"
          · refine ⟨_, b1, sz_less (by rw [List.length_map]; omega), same_mut sm5 hB, ps ++ [2 * z], ?_, by simp; omega, ?_⟩
            · show upd _ _ _ _ = _
              rw [upd_same, nums_snoc]
            · intro x hx
              rcases List.mem_append.mp hx with hx | hx
              · exact b3 x hx
              · rw [List.mem_singleton] at hx
                subst hx
                rw [show 2 * z / 2 = z from by omega]
                exact ⟨by omega, hzl⟩
          · first | exact ⟨sm5, ps, b1, by omega, b3⟩ | exact ⟨ps, b1, by omega, b3⟩
        · intro H5 hP
          obtain ⟨sm5, ps, b1, b2, b3⟩ := hP
          rw [List.length_map] at b2
          have b1' : H5 B = some (.lst (ps.map V.int)) := b1
          have nB : H2 B = none := sm4.free hB
          walk_at "s"
          rename_i C nC
          have b16 : upd H5 C (.dK []) B = some (.lst (ps.map V.int)) := hp_new b1' nC
          have sm6 : Same H5 (upd H5 C (.dK [])) := same_new nC
          have nBC : B ≠ C := ne_of_none b1' nC
          refine for_listQ (xs := ps.map V.int) Q rfl (fun j σ H6 => ∃ (v11 : Option V) (ck : List (Key × V)), σ = [some (.ref a), some (.ref k), some (.ref lv), some (.ref u), v4, v5, some (.ref F), some (.int num), some (.int (i : Int)), some (.ref B), some (.ref C), v11, v12, v13, v14, v15, v16, v17, v18] ∧
            Same H5 H6 ∧ H6 C = some (.dK ck) ∧ CameK ls ck ∧ ck.length ≤ j ∧ ∀ p ∈ ps.take j, Has ck p) ?_ ?_ ?_ ?_
          · exact ⟨_, [], rfl, sm6, upd_same, .nil, Nat.le_refl _, by simp⟩
          · intro j σ H6 hj hP
            obtain ⟨v11, ck, rfl, sm7, _⟩ := hP
            exact SqL.of (sm7 _ _ b1')
          · intro N2 X2 j x σ H6 hj hP hN2
            obtain ⟨v11, ck, rfl, sm7, c1, c2, c3, c4⟩ := hP
            obtain ⟨z, rfl, hz⟩ := map_get hj
            have hzp : z ∈ ps := List.mem_of_getElem? hz
            have hjl := (List.getElem?_eq_some_iff.mp hz).1
            walk_at "s"
            refine ⟨C, _, rfl, DPut.k (k := Sum.inl z) c1 (sz_less (by omega)), ?_⟩
            walk_at "s"
            refine hN2 _ _ ⟨_, _, rfl, same_mut sm7 nC, upd_same, c2.put (b3 z hzp).1 (b3 z hzp).2 (.inl rfl), ?_, ?_⟩
            · exact Nat.le_trans (putK_le ck (Sum.inl z) (.int (-1))) (by omega)
            · intro x hx
              rw [take_snoc hz] at hx
              rcases List.mem_append.mp hx with hx | hx
              · exact (c4 x hx).put
              · rw [List.mem_singleton] at hx
                subst hx
                exact Has.new
          · intro σ H6 hP
            obtain ⟨v11, ck, rfl, sm7, c1, c2, c3, c4⟩ := hP
            rw [List.length_map, List.take_length] at c4
            rw [List.length_map] at c3
            have b17 := sm7 _ _ b1'
            have hlv6 := sm7 _ _ (sm5 _ _ hlv4)
            have hF6 := sm7 _ _ (sm5 _ _ hF)
            have sm26 : Same H2 H6 := (sm4.trans sm5).trans sm7
            have nC2 : H2 C = none := (sm4.trans sm5).free nC
            have nC4 : H4 C = none := sm5.free nC
            have nB4 : H4 B = none := hB
            walk_at "s"
            refine for_rangeQ (lo := 0) (n := (2 * ((ls.map V.int).length : Int) + 2).toNat) Q rfl (fun j σ H7 => ∃ (v11 v13 v14 : Option V) (last : Int) (ps : List Int) (ck : List (Key × V)), σ = [some (.ref a), some (.ref k), some (.ref lv), some (.ref u), v4, v5, some (.ref F), some (.int num), some (.int (i : Int)), some (.ref B), some (.ref C), v11, some (.int last), v13, v14, v15, v16, v17, v18] ∧
              Same H4 H7 ∧ Ints H7 B ps ∧ H7 C = some (.dK ck) ∧ CameK ls ck ∧ ck.length ≤ 20 + 60 * j ∧ ps.length ≤ 20 + 60 * j ∧ (∀ p ∈ ps, Has ck p) ∧ (last = -1 ∨ (0 ≤ last ∧ Has ck last))) ?_ ?_ ?_
            · exact ⟨_, _, _, _, ps, ck, rfl, sm5.trans sm7, b17, c1, c2, by omega, by omega, c4, .inl rfl⟩
            · intro N2 X2 j σ H7 hj hP hN2
              obtain ⟨v11, v13, v14, last, ps, ck, rfl, sm8, d1, d2, d3, d4, d5, d6, d7⟩ := hP
              have d1' : H7 B = some (.lst (ps.map V.int)) := d1
              have hjl : j ≤ 42 := by omega
              have sm28 : Same H2 H7 := sm4.trans sm8
              have hk7 := sm28 _ _ hkH2
              simp only [Int.zero_add]
              walk_at "s"
              · rename_i e1 e2
                have hjp : j < ps.length := by
                  rw [List.length_map] at e1
                  omega
                have hat : atI (ps.map V.int) (j : Int) = some (.int ps[j]) := atI_nat (by rw [List.getElem?_map, List.getElem?_eq_getElem hjp]; rfl)
                have hh : Has ck ps[j] := d6 _ (List.getElem_mem hjp)
                obtain ⟨h0, h1, _⟩ := d3.at hh
                generalize ps[j] = here at hat hh h0 h1
                refine ⟨_, _, _, _, rfl, rfl, SqL.of d1', hat, ?_⟩
                walk_at "s"
                refine go_cutM (fun σ' H' => ∃ last : Int, σ' = [some (.ref a), some (.ref k), some (.ref lv), some (.ref u), v4, v5, some (.ref F), some (.int num), some (.int (i : Int)), some (.ref B), some (.ref C), some (.int (j : Int)), some (.int last), some (.int here), v14, v15, v16, v17, v18] ∧ H' = H7 ∧ (last = -1 ∨ (0 ≤ last ∧ Has ck last))) ?_ fun σ' H' hM => ?_
                · walk_at "s"
                  · refine ⟨flat_ints, ?_⟩
                    rw [show (if false = true then !inV (V.int (here / 2)) (ks.map V.int) else inV (V.int (here / 2)) (ks.map V.int)) = inV (V.int (here / 2)) (ks.map V.int) from rfl, inV_int]
                    refine ⟨_, rfl, ?_⟩
                    by_cases e : here / 2 ∈ ks
                    · rw [decide_eq_true e]
                      refine iteT ?_
                      walk_at "s"
                      exact .inr ⟨h0, hh⟩
                    · rw [decide_eq_false e]
                      refine iteF ?_
                      walk_at "s"
                      exact d7
                  · exact d7
                obtain ⟨last, rfl, hH7, hlast⟩ := hM
                replace hH7 := hH7.symm
                subst hH7
                have hR7 : RowsT H7 a rs := hR2.same sm28
                have hF7 := sm8 _ _ hF
                walk_at "s"
                refine ⟨a, k, lv, u, F, rs, ls, fk.length, here, rfl, hR7, hW, hn, hls, hU.same sm28, ⟨fk, hF7, Nat.le_refl _, hFK⟩, h0, h1, fun l H8 ts smn nl hl hts htl => ?_⟩
                walk_at "s"
                have hl' : H8 l = some (.lst (ts.map V.int)) := hl
                have nlB : l ≠ B := (ne_of_none d1' nl).symm
                have nlC : l ≠ C := (ne_of_none d2 nl).symm
                refine for_listQ (xs := ts.map V.int) Q rfl (fun n σ H9 => ∃ (v14 : Option V) (ps : List Int) (ck : List (Key × V)), σ = [some (.ref a), some (.ref k), some (.ref lv), some (.ref u), v4, v5, some (.ref F), some (.int num), some (.int (i : Int)), some (.ref B), some (.ref C), some (.int (j : Int)), some (.int last), some (.int here), v14, v15, v16, v17, v18] ∧
                  Same H4 H9 ∧ Ints H9 l ts ∧ Ints H9 B ps ∧ H9 C = some (.dK ck) ∧ CameK ls ck ∧ ck.length ≤ 20 + 60 * j + n ∧ ps.length ≤ 20 + 60 * j + n ∧ (∀ p ∈ ps, Has ck p) ∧ (last = -1 ∨ (0 ≤ last ∧ Has ck last)) ∧ Has ck here) ?_ ?_ ?_ ?_
                · exact ⟨_, ps, ck, rfl, sm8.trans smn, hl, smn _ _ d1', smn _ _ d2, d3, by omega, by omega, d6, hlast, hh⟩
                · intro n σ H9 hn9 hP
                  obtain ⟨v14, ps, ck, rfl, sm9, f0, f1, f2, f3, f4, f5, f6, f7, f8⟩ := hP
                  exact SqL.of f0
                · intro N3 X3 n x σ H9 hn9 hP hN3
                  obtain ⟨v14, ps, ck, rfl, sm9, f0, f1, f2, f3, f4, f5, f6, f7, f8⟩ := hP
                  obtain ⟨z, rfl, hz⟩ := map_get hn9
                  obtain ⟨z0, z1⟩ := hts z (List.mem_of_getElem? hz)
                  have hnl := (List.getElem?_eq_some_iff.mp hz).1
                  have f1' : H9 B = some (.lst (ps.map V.int)) := f1
                  walk_at "s"
                  refine ⟨C, _, rfl, DGet.k (k := Sum.inl z) f2, ?_⟩
                  cases ez : valV ck (Sum.inl z : Key) with
                  | some v =>
                    rw [show (!(some v).isSome) = false from rfl]
                    walk_at "s"
                    exact hN3 _ _ ⟨_, ps, ck, rfl, sm9, f0, f1, f2, f3, by omega, by omega, f6, f7, f8⟩
                  | none =>
                    rw [show (!(none : Option V).isSome) = true from rfl]
                    walk_at "s"
                    refine ⟨C, _, rfl, DPut.k (k := Sum.inl z) f2 (sz_less (by omega)), ?_⟩
                    have hpl : (ps.map V.int).length ≤ 5000 := by
                      rw [List.length_map]
                      omega
                    have f19 : upd H9 C (.dK (putK ck (Sum.inl z) (.int here))) B = some (.lst (ps.map V.int)) := (upd_ne nBC).trans f1'
                    walk_at "s"
                    refine hN3 _ _ ⟨_, ps ++ [z], putK ck (Sum.inl z) (.int here), rfl, ?_, ?_, ?_, ?_, f3.put z0 z1 (.inr ⟨h0, f8⟩), ?_, by simp; omega, ?_, ?_, f8.put⟩
                    · exact same_mut (same_mut sm9 nC4) nB4
                    · exact (upd_ne nlB).trans ((upd_ne nlC).trans f0)
                    · show upd _ _ _ _ = _
                      rw [upd_same, nums_snoc]
                    · exact (upd_ne nBC.symm).trans upd_same
                    · exact Nat.le_trans (putK_le ck (Sum.inl z) (.int here)) (by omega)
                    · intro x hx
                      rcases List.mem_append.mp hx with hx | hx
                      · exact (f6 x hx).put
                      · rw [List.mem_singleton] at hx
                        subst hx
                        exact Has.new
                    · exact f7.imp id fun h => ⟨h.1, h.2.put⟩
                · intro σ H9 hP
                  obtain ⟨v14, ps, ck, rfl, sm9, f0, f1, f2, f3, f4, f5, f6, f7, f8⟩ := hP
                  rw [List.length_map] at f4 f5
                  exact hN2 _ _ ⟨_, _, _, last, ps, ck, rfl, sm9, f1, f2, f3, by omega, by omega, f6, f7⟩
              all_goals exact hN2 _ _ ⟨_, _, _, last, ps, ck, rfl, sm8, d1, d2, d3, by omega, by omega, d6, d7⟩
            · intro σ H7 hP
              obtain ⟨v11, v13, v14, last, ps, ck, rfl, sm8, d1, d2, d3, d4, d5, d6, d7⟩ := hP
              have sm28 : Same H2 H7 := sm4.trans sm8
              have hF7 := sm8 _ _ hF
              have hlv7 := sm28 _ _ hlv2
              walk_at "s"
              · rename_i e t nt
                exact q t F C _ ck _ (((sm1.trans sm).trans sm28).trans (same_new nt)) upd_same (hp_new d2 nt)
              · rename_i e
                have hlast : 0 ≤ last ∧ Has ck last := by
                  rcases d7 with h | h
                  · omega
                  · exact h
                obtain ⟨l0, l1, _⟩ := d3.at hlast.2
                refine ⟨.inr ⟨_, .inl hF7⟩, ?_⟩
                walk_at "s"
                rename_i q1 hq1
                obtain ⟨o1, n1, g1, g2, g3⟩ := flow_get hFK (hp_new hF7 hq1) upd_same
                refine ⟨o1, g1, ?_⟩
                rw [g2]
                have hF8 := hp_new (o := .dT fk) (x := .tup [V.int (last / 2), V.int (-1)]) hF7 hq1
                have hd8 := hp_new (o := .dK ck) (x := .tup [V.int (last / 2), V.int (-1)]) d2 hq1
                have hlv8 := hp_new (x := .tup [V.int (last / 2), V.int (-1)]) hlv7 hq1
                walk_at "s"
                rename_i q2 hq2
                refine ⟨F, _, rfl, DPut.t (k := [Sum.inl (last / 2), Sum.inl (-1)]) (hp_new hF8 hq2) upd_same (sz_less (by omega)), ?_⟩
                have hlv9 := hp_new (x := .tup [V.int (last / 2), V.int (-1)]) hlv8 hq2
                have nlF : lv ≠ F := ne_of hlv7 hF7 (by intro z; cases z)
                have nCF : C ≠ F := ne_of d2 hF7 (by intro z; cases z)
                have nF2 : H2 F = none := nF
                walk_at "s"
                refine for_rangeQ (lo := 0) (n := (2 * ((ls.map V.int).length : Int) + 2).toNat) Q rfl (fun j σ H9 => ∃ (v15 v16 v17 v18 : Option V) (last : Int) (fk : List (List Key × V)), σ = [some (.ref a), some (.ref k), some (.ref lv), some (.ref u), v4, v5, some (.ref F), some (.int (num + 1)), some (.int (i : Int)), some (.ref B), some (.ref C), v11, some (.int last), v13, v14, v15, v16, v17, v18] ∧
                  Same H2 H9 ∧ H9 C = some (.dK ck) ∧ H9 F = some (.dT fk) ∧ FlowK ls fk ∧ fk.length ≤ 100 * i + 1 + j ∧ (last = -1 ∨ (0 ≤ last ∧ Has ck last))) ?_ ?_ ?_
                · refine ⟨_, _, _, _, last, _, rfl, ?_, ?_, upd_same, hFK.put (.inr l1), ?_, d7⟩
                  · exact same_mut ((sm28.trans (same_new hq1)).trans (same_new hq2)) nF2
                  · exact (upd_ne nCF).trans (hp_new hd8 hq2)
                  · exact Nat.le_trans (putK_le _ _ _) (by omega)
                · intro N2 X2 j σ H9 hj hP hN2
                  obtain ⟨v15, v16, v17, v18, last, fk, rfl, sm9, c1, c2, c3, c4, c5⟩ := hP
                  have hjl : j ≤ 42 := by omega
                  simp only [Int.zero_add]
                  walk_at "s"
                  · rename_i e
                    have hlast : 0 ≤ last ∧ Has ck last := by
                      rcases c5 with h | h
                      · omega
                      · exact h
                    obtain ⟨m0, m1, bf, m2, m3⟩ := d3.at hlast.2
                    refine ⟨C, .int bf, rfl, by rw [← m2]; exact DGet.k (k := Sum.inl last) c1, ?_⟩
                    walk_at "s"
                    refine go_cutM (fun σ' H' => ∃ (q : Addr) (x y : Int), σ' = [some (.ref a), some (.ref k), some (.ref lv), some (.ref u), v4, v5, some (.ref F), some (.int (num + 1)), some (.int (i : Int)), some (.ref B), some (.ref C), v11, some (.int last), v13, v14, some (.int (j : Int)), some (.int bf), some (.ref q), v18] ∧ Same H9 H' ∧ H' q = some (.tup [.int x, .int y]) ∧ (x = -1 ∨ x ∈ ls) ∧ y ∈ ls) ?_ fun σ' H' hM => ?_
                    · walk_at "s"
                      · rename_i e2 p hp
                        have hb : 0 ≤ bf ∧ Has ck bf := by
                          rcases m3 with h | h
                          · omega
                          · exact h
                        exact ⟨p, _, _, rfl, same_new hp, upd_same, .inr (d3.at hb.2).2.1, m1⟩
                      · rename_i e2 p hp
                        exact ⟨p, _, _, rfl, same_new hp, upd_same, .inl rfl, m1⟩
                    obtain ⟨q0, x, y, rfl, smP, hq0, hx, hy⟩ := hM
                    refine go_cutM (fun σ' H'' => ∃ b : Bool, σ' = [some (.ref a), some (.ref k), some (.ref lv), some (.ref u), v4, v5, some (.ref F), some (.int (num + 1)), some (.int (i : Int)), some (.ref B), some (.ref C), v11, some (.int last), v13, v14, some (.int (j : Int)), some (.int bf), some (.ref q0), some (.bl b)] ∧ H' = H'') ?_ fun σ' H'' hM => ?_
                    · walk_at "s"
                      all_goals first | rfl | exact ⟨_, rfl, rfl⟩
                    obtain ⟨b, rfl, hHH⟩ := hM
                    subst hHH
                    refine go_cutM (fun σ' H'' => ∃ (q : Addr) (x y : Int), σ' = [some (.ref a), some (.ref k), some (.ref lv), some (.ref u), v4, v5, some (.ref F), some (.int (num + 1)), some (.int (i : Int)), some (.ref B), some (.ref C), v11, some (.int last), v13, v14, some (.int (j : Int)), some (.int bf), some (.ref q), some (.bl b)] ∧ Same H' H'' ∧ H'' q = some (.tup [.int x, .int y]) ∧ (x = -1 ∨ x ∈ ls)) ?_ fun σ' H'' hM => ?_
                    · walk_at "s"
                      · rename_i p hp
                        exact ⟨p, y, x, rfl, same_new hp, upd_same, .inr hy⟩
                      · exact ⟨q0, x, y, rfl, Same.refl _, hq0, hx⟩
                      · exact ⟨q0, x, y, rfl, Same.refl _, hq0, hx⟩
                    obtain ⟨q3, x, y, rfl, smP2, hq3, hx⟩ := hM
                    have c22 := smP2 _ _ (smP _ _ c2)
                    have c12 := smP2 _ _ (smP _ _ c1)
                    walk_at "s"
                    refine ⟨.inr ⟨_, .inl c22⟩, ?_⟩
                    walk_at "s"
                    obtain ⟨o4, n4, g4, g5, g6⟩ := flow_get c3 c22 hq3
                    refine ⟨o4, g4, ?_⟩
                    rw [g5]
                    walk_at "s"
                    all_goals
                      refine ⟨F, _, rfl, DPut.t (k := [Sum.inl x, Sum.inl y]) c22 hq3 (sz_less (by omega)), ?_⟩
                      walk_at "s"
                      exact hN2 _ _ ⟨_, _, _, _, bf, _, rfl, same_mut ((sm9.trans smP).trans smP2) nF2, (upd_ne nCF).trans c12, upd_same, c3.put hx, Nat.le_trans (putK_le _ _ _) (by omega), m3⟩
                  · exact hN2 _ _ ⟨_, _, _, _, last, fk, rfl, sm9, c1, c2, c3, by omega, c5⟩
                · intro σ H9 hP
                  obtain ⟨v15, v16, v17, v18, last, fk, rfl, sm9, c1, c2, c3, c4, c5⟩ := hP
                  exact hN _ _ ⟨_, _, _, _, _, _, _, _, _, _, _, _, _, _, fk, rfl, sm9, c2, c3, by omega⟩
      · intro σ H4 hP
        obtain ⟨v4, v5, v8, v9, v10, v11, v12, v13, v14, v15, v16, v17, v18, num, fk, rfl, sm4, hF, hFK, hFl⟩ := hP
        walk_at "s"
        rename_i C nC t nt
        exact q t F C num [] _ ((((sm1.trans sm).trans sm4).trans (same_new nC)).trans (same_new nt)) upd_same (hp_new upd_same nt)
end
end K17W
set_option Elab.async false
set_option linter.all false
set_option maxRecDepth 100000
set_option maxHeartbeats 4000000
namespace K17W
open PySem PySem.Spec PyProof.Rows L2 TL LW NT
local macro_rules | `(tactic| walk_at "ne") => `(tactic| first
  | (with_reducible assumption)
  | exact Ne.symm (by assumption)
  | (with_reducible exact ne_of_none (by assumption) (by assumption))
  | (with_reducible exact (ne_of_none (by assumption) (by assumption)).symm)
  | (apply ne_of_none; (case h' => assumption); (case h => walk_at "hp"))
  | (apply Ne.symm; apply ne_of_none; (case h' => assumption); (case h => walk_at "hp")))
local macro_rules | `(tactic| walk_at "hp") => `(tactic| first
  | (with_reducible assumption)
  | exact upd_same
  | (with_reducible exact hp_new (by assumption) (by assumption))
  | (apply hp_new; (case n => assumption); (case h => walk_at "hp"))
  | (refine (upd_ne ?ne).trans ?hp; (case ne => walk_at "ne"); (case hp => walk_at "hp")))
local macro_rules | `(tactic| walk_at "sq") => `(tactic| first
  | ((with_reducible show SqL _ _ _ _); assumption)
  | ((with_reducible show SqT _ _ _ _); assumption)
  | exact SqL.of (by assumption)
  | exact SqL.of upd_same
  | exact SqT.of (by assumption)
  | exact SqT.of upd_same
  | (apply SqL.of; walk_at "hp")
  | (apply SqT.of; walk_at "hp"))
local macro_rules | `(tactic| walk_at "len") => `(tactic| first
  | (with_reducible assumption)
  | exact sz_small (by omega)
  | exact sz_less (by omega)
  | decide
  | (refine sz_small ?_; simp only [List.length_append, List.length_cons, List.length_nil, List.length_map, str_len]; omega)
  | (refine sz_less ?_; simp only [List.length_append, List.length_cons, List.length_nil, List.length_map, str_len]; omega))
local macro_rules | `(tactic| walk_at "cond") => `(tactic| first
  | omega
  | (split <;> omega)
  | (with_reducible assumption)
  | exact .inl ⟨by omega, by omega⟩
  | exact .inr ⟨by omega, by omega⟩
  | exact ⟨by omega, by omega⟩
  | (show (0 : Int) < _; omega)
  | (show (0 : Int) < _; decide +kernel)
  | exact ⟨by omega, by omega, by decide⟩
  | walk_at "len"
  | rfl
  | (show CMulW _ _; unfold CMulW; decide +kernel)
  | exact ⟨_, rfl⟩
  | decide +kernel
  | exact ⟨_, by walk_at "sq"⟩
  | exact .inl ⟨rfl, _, by walk_at "sq"⟩)
local macro_rules | `(tactic| walk_at "at") => `(tactic| first
  | (with_reducible assumption)
  | exact atI_nat (by assumption)
  | exact atI_last _ _
  | exact atI_nat (j := 0) rfl
  | exact atI_nat (j := 1) rfl
  | exact atI_nat (j := 2) rfl
  | exact atI_nat (j := 3) rfl
  | exact atI_nat (j := 4) rfl)
local macro_rules | `(tactic| walk_at "ix") => `(tactic| first
  | (with_reducible assumption)
  | (with_reducible exact ixN_0 (by simp; done))
  | (with_reducible exact ixN_1 (by simp; done))
  | (with_reducible exact ixN_2 (by simp; done))
  | (with_reducible exact Evl.ixN_nat (by assumption))
  | (with_reducible exact Evl.ixN_nat (by omega)))
local macro_rules | `(tactic| walk_at "v") => `(tactic| first
  | exact val_var rfl
  | (with_reducible exact val_c)
  | (with_reducible apply val_orV; (case ha => walk_at "v"); (case hb => walk_at "v"))
  | (with_reducible apply val_andV; (case ha => walk_at "v"); (case hb => walk_at "v"))
  | (with_reducible apply val_notV; walk_at "v")
  | (with_reducible apply val_ifS; (case h => walk_at "w"); (case ha => walk_at "v"); (case hb => walk_at "v"))
  | (with_reducible apply val_ifI; (case h => walk_at "w"); (case ha => walk_at "v"); (case hb => walk_at "v"))
  | (with_reducible apply val_ifB; (case h => walk_at "w"); (case ha => walk_at "v"); (case hb => walk_at "v"))
  | (with_reducible apply val_eqS; (case ha => walk_at "v"); (case hb => walk_at "v"))
  | (with_reducible apply val_eqI; (case ha => walk_at "v"); (case hb => walk_at "v"))
  | (with_reducible apply val_neS; (case ha => walk_at "v"); (case hb => walk_at "v"))
  | (with_reducible apply val_neI; (case ha => walk_at "v"); (case hb => walk_at "v"))
  | (with_reducible apply val_op; (case ha => walk_at "v"); (case hb => walk_at "v"); (case hr => exact fun Q q => ⟨_, _, rfl, rfl, q⟩)))
local macro_rules | `(tactic| walk_at "w") => `(tactic| first
  | (with_reducible apply ans_or2; (case h1 => walk_at "w"); (case h2 => walk_at "w"))
  | (with_reducible apply ans_and2; (case h1 => walk_at "w"); (case h2 => walk_at "w"))
  | (with_reducible apply ans_not; walk_at "w")
  | (with_reducible apply ans_test; walk_at "v")
  | (with_reducible apply ans_val; walk_at "v"))
local macro_rules | `(tactic| walk_at "s2") => `(tactic| first
  | refine ⟨_, rfl, ?_⟩
  | refine ⟨_, _, rfl, rfl, ?_⟩
  | (refine And.intro ?cc ?_; (case cc => walk_at "cond"))
  | refine ⟨_, _, _, _, rfl, rfl, by walk_at "sq", by walk_at "at", ?_⟩
  | refine ⟨_, _, _, _, rfl, rfl, by walk_at "hp", by walk_at "ix", ?_⟩
  | refine ⟨_, _, _, _, rfl, rfl, by walk_at "hp", by walk_at "hp", by walk_at "len", ?_⟩
  | refine ⟨_, _, _, rfl, rfl, by walk_at "len", by walk_at "at", ?_⟩
  | refine ⟨_, _, _, rfl, rfl, by walk_at "hp", by walk_at "len", ?_⟩
  | refine ⟨_, _, _, rfl, rfl, by walk_at "hp", by walk_at "at", ?_⟩
  | refine ⟨_, _, rfl, rfl, by walk_at "sq", ?_⟩
  | refine ⟨_, _, rfl, rfl, by walk_at "len", ?_⟩
  | refine ⟨_, _, rfl, by walk_at "sq", ?_⟩
  | refine ⟨_, _, rfl, .inl (by walk_at "sq"), ?_⟩
  | refine ⟨_, _, rfl, .inr (by walk_at "sq"), ?_⟩
  | refine ⟨_, _, rfl, by walk_at "sq", rfl, ?_⟩
  | refine ⟨_, fun _ _ h => h, ?_⟩
  | refine .inl ⟨_, rfl, ?_⟩
  | refine ⟨_, _, .type "int", .type _, true, rfl, ClsV.ty _, .base (.int _), kit_ty (by decide +kernel), ?_⟩
  | refine ⟨_, _, .type "int", .type _, false, rfl, ClsV.ty _, .base (.int _), kit_ty (by decide +kernel), ?_⟩
  | refine ⟨_, _, .type "bool", .type _, true, rfl, ClsV.ty _, .base (.bl _), kit_ty (by decide +kernel), ?_⟩
  | refine ⟨_, _, .type "bool", .type _, false, rfl, ClsV.ty _, .base (.bl _), kit_ty (by decide +kernel), ?_⟩
  | refine ⟨_, _, .type "str", .type _, true, rfl, ClsV.ty _, .base (.str _), kit_ty (by decide +kernel), ?_⟩
  | refine ⟨_, _, .type "str", .type _, false, rfl, ClsV.ty _, .base (.str _), kit_ty (by decide +kernel), ?_⟩
  | refine ⟨_, _, .type "NoneType", .type _, true, rfl, ClsV.ty _, .base (.non), kit_ty (by decide +kernel), ?_⟩
  | refine ⟨_, _, .type "NoneType", .type _, false, rfl, ClsV.ty _, .base (.non), kit_ty (by decide +kernel), ?_⟩
  | refine ⟨_, _, .type "list", .type _, true, rfl, ClsV.ty _, .base (.lst (by walk_at "hp")), kit_ty (by decide +kernel), ?_⟩
  | refine ⟨_, _, .type "list", .type _, false, rfl, ClsV.ty _, .base (.lst (by walk_at "hp")), kit_ty (by decide +kernel), ?_⟩
  | refine ⟨_, _, .type "tuple", .type _, true, rfl, ClsV.ty _, .base (.tup (by walk_at "hp")), kit_ty (by decide +kernel), ?_⟩
  | refine ⟨_, _, .type "tuple", .type _, false, rfl, ClsV.ty _, .base (.tup (by walk_at "hp")), kit_ty (by decide +kernel), ?_⟩
  | fail)
local macro_rules | `(tactic| walk_at "s1") => `(tactic| first
  | (with_reducible refine go_gcons ?_)
  | (with_reducible refine go_gnil ?_)
  | (with_reducible refine go_seqM ?_)
  | (with_reducible refine go_nextM ?_)
  | (with_reducible refine go_contM ?_)
  | (with_reducible refine go_brkM ?_)
  | (with_reducible refine go_retM ?_)
  | (with_reducible refine go_asgM ?_)
  | (with_reducible refine go_test ?_)
  | (with_reducible refine go_rI0 ?_)
  | (with_reducible refine go_op ?_)
  | (with_reducible refine go_var rfl ?_)
  | ((with_reducible show tFor (iRng1 _) _ _ _ _ _); refine (show iRng1 _ _ _ _ from ?_))
  | (with_reducible refine go_rng1 ?_)
  | (with_reducible refine go_c ?_)
  | (with_reducible apply go_pick; (case hs => walk_at "hp"); (case h0 => walk_at "cond"); (case h1 => walk_at "cond"); (case' q => intro k a b c h0 h1))
  | (with_reducible refine go_nil ?_)
  | (with_reducible refine go_cons ?_)
  | (with_reducible refine go_call ?_)
  | (with_reducible refine go_cb ?_)
  | (with_reducible refine go_next ?_)
  | (with_reducible refine go_cont ?_)
  | (with_reducible refine go_ret ?_)
  | (with_reducible refine go_name ?_)
  | (with_reducible refine go_seq ?_)
  | (with_reducible refine go_asg ?_)
  | (with_reducible apply go_or; (case h => walk_at "v"))
  | (with_reducible apply go_and; (case h => walk_at "v"))
  | (with_reducible apply go_andL; (case h => walk_at "v"); (case' h1 => intro e); (case' h2 => intro e))
  | (with_reducible apply go_orL; (case h => walk_at "v"); (case' h1 => intro e); (case' h2 => intro e))
  | (with_reducible apply go_ifE; (case h => walk_at "v"))
  | (with_reducible apply go_ifOr; (case h => walk_at "w"); (case' h1 => intro e); (case' h2 => intro e))
  | (with_reducible apply go_ifAnd; (case h => walk_at "w"); (case' h1 => intro e); (case' h2 => intro e))
  | (with_reducible refine go_min ?_)
  | (with_reducible refine iteT ?_)
  | (with_reducible refine iteF ?_)
  | (with_reducible refine iteD (fun _ => ?_) (fun e => absurd rfl e))
  | (with_reducible refine iteS (fun e => ?_) (fun e => ?_))
  | (with_reducible refine iteI (fun e => ?_) (fun e => ?_))
  | (with_reducible refine iteSn (fun e => ?_) (fun e => ?_))
  | (with_reducible refine iteIn (fun e => ?_) (fun e => ?_))
  | (with_reducible refine iteD (fun e => ?_) (fun e => ?_))
  | (with_reducible refine iteDn (fun e => ?_) (fun e => ?_))
  | (with_reducible refine ite2 (fun e => ?_) (fun e => ?_))
  | (refine fun (p : Addr) (hp : _ = none) => ?_)
  | ((conv => whnf); walk_at "s2")
  | fail)
local macro_rules | `(tactic| walk_at "s") => `(tactic| repeat' (first
  | (with_reducible refine go_gcons ?_)
  | (with_reducible refine go_gnil ?_)
  | (with_reducible refine go_seqM ?_)
  | (with_reducible refine go_nextM ?_)
  | (with_reducible refine go_contM ?_)
  | (with_reducible refine go_brkM ?_)
  | (with_reducible refine go_retM ?_)
  | (with_reducible refine go_asgM ?_)
  | (with_reducible refine go_test ?_)
  | (with_reducible refine go_rI0 ?_)
  | (with_reducible refine go_op ?_)
  | (with_reducible refine go_var rfl ?_)
  | ((with_reducible show tFor (iRng1 _) _ _ _ _ _); refine (show iRng1 _ _ _ _ from ?_))
  | (with_reducible refine go_rng1 ?_)
  | (with_reducible refine go_c ?_)
  | (with_reducible apply go_pick; (case hs => walk_at "hp"); (case h0 => walk_at "cond"); (case h1 => walk_at "cond"); (case' q => intro k a b c h0 h1))
  | (with_reducible refine go_nil ?_)
  | (with_reducible refine go_cons ?_)
  | (with_reducible refine go_call ?_)
  | (with_reducible refine go_cb ?_)
  | (with_reducible refine go_next ?_)
  | (with_reducible refine go_cont ?_)
  | (with_reducible refine go_ret ?_)
  | (with_reducible refine go_name ?_)
  | (with_reducible refine go_seq ?_)
  | (with_reducible refine go_asg ?_)
  | (with_reducible apply go_or; (case h => walk_at "v"))
  | (with_reducible apply go_and; (case h => walk_at "v"))
  | (with_reducible apply go_andL; (case h => walk_at "v"); (case' h1 => intro e); (case' h2 => intro e))
  | (with_reducible apply go_orL; (case h => walk_at "v"); (case' h1 => intro e); (case' h2 => intro e))
  | (with_reducible apply go_ifE; (case h => walk_at "v"))
  | (with_reducible apply go_ifOr; (case h => walk_at "w"); (case' h1 => intro e); (case' h2 => intro e))
  | (with_reducible apply go_ifAnd; (case h => walk_at "w"); (case' h1 => intro e); (case' h2 => intro e))
  | (with_reducible refine go_min ?_)
  | (with_reducible refine iteT ?_)
  | (with_reducible refine iteF ?_)
  | (with_reducible refine iteD (fun _ => ?_) (fun e => absurd rfl e))
  | (with_reducible refine iteS (fun e => ?_) (fun e => ?_))
  | (with_reducible refine iteI (fun e => ?_) (fun e => ?_))
  | (with_reducible refine iteSn (fun e => ?_) (fun e => ?_))
  | (with_reducible refine iteIn (fun e => ?_) (fun e => ?_))
  | (with_reducible refine iteD (fun e => ?_) (fun e => ?_))
  | (with_reducible refine iteDn (fun e => ?_) (fun e => ?_))
  | (with_reducible refine ite2 (fun e => ?_) (fun e => ?_))
  | (refine fun (p : Addr) (hp : _ = none) => ?_)
  | ((conv => whnf); walk_at "s2")
  | fail))

section
variable {P : Program} {w : World} {K : PySem.W.Frag} {mg : Str → Option Value} {base : Heap}
/-! ### the earliest set: a list of numbers -/
def spEarly (K : PySem.W.Frag) : Sp := fun vs H Q _ => ∃ (a k : Addr) (rs : List Rw) (ks : List Int), vs = [.ref a, .ref k] ∧ RowsT H a rs ∧ WF rs ∧ rs.length ≤ 20 ∧ Ints H k ks ∧
  ∀ (l : Addr) (H' : Hp) (es : List Int), Same H H' → H l = none → Ints H' l es → es.length ≤ 20 → Q (.ref l) H'
theorem ok_earliest (T : Top w K mg) : FnOk P w K mg base CX0 4 T.a_law_c_earliest T.d_law_c_earliest ["rows", "wanted"] (spEarly K) := by
  have G_law_c_flow := ok_flow (P := P) (w := w) (base := base) T
  refine T.F_law_c_earliest.ok sc_law_c_earliest (fun vs H Q E h => ?_) (fun cdv A outer s H vs Q E hr h => ?_)
  · obtain ⟨a, k, rs, ks, rfl, _⟩ := h
    rfl
  · obtain ⟨a, k, rs, ks, rfl, hR, hW, hn, hk, q⟩ := h
    have hu := hu_of hr
    refine ⟨_, (pss_cons (ps_asg (pe_call G_law_c_flow (hr.mono (by omega)) (by rfl) T.m_law_c_flow T.F_law_c_flow.kp T.b_law_c_flow .nil pass0 (pa_cons (pv 0) (pa_cons (pv 1) pa_nil))) (pg_tup rfl (pgs_cons (pg_name (i := 2) sc_law_c_earliest.nd rfl (.inl rfl)) (pgs_cons (pg_name (i := 3) sc_law_c_earliest.nd rfl (.inl rfl)) (pgs_cons (pg_name (i := 4) sc_law_c_earliest.nd rfl (.inr rfl)) pgs_nil)))))
    (pss_one (ps_ret (pe_lc (own := [("node", 5)]) rfl sc_law_c_earliest.nd (pi_range1 rfl T.m_range (pa_cons (pe_callB call_len_seq (by rfl) T.m_len (by decide +kernel) (pa_cons (pv 0) pa_nil)) pa_nil)) (blkOk_by (own := [("node", 5)]) (N := ["rows", "wanted", "number", "flow", "came", "node"]) (sc := defScope s_law_c_earliest) (by decide +kernel)) (fun _ _ _ _ _ => (pg_name (i := 5) sc_law_c_earliest.nd rfl (.inl rfl))) (fun _ _ _ _ _ => pts_one (PW.pt (pw_and (pt_cmp (pc_din hu (pe_op op_mul pe_int (pv 5)) (pv 4))) (pw_and1 (pt_cmp (pc_dnotin hu (pe_op op_add (pe_op op_mul pe_int (pv 5)) pe_int) (pv 4))))))) (fun _ _ _ _ _ => (pv 5)))))), ?_⟩
    walk_at "s"
    refine ⟨a, k, rs, ks, rfl, hR, hW, hn, hk, fun t F C num ck H1 sm1 ht hC => ?_⟩
    obtain ⟨xs, hX, hE⟩ := hR.same sm1
    have hXl := hE.len
    walk_at "s"
    rename_i L hL
    refine lc_range (lo := 0) (n := ((xs.length : Int)).toNat) (fun i H2 => Same H1 H2 ∧ ∃ es : List Int, Ints H2 L es ∧ es.length ≤ i) ?_ ?_ ?_
    · exact ⟨same_new hL, [], upd_same, Nat.le_refl _⟩
    · intro i H2 hi hP
      obtain ⟨sm2, es, e1, e2⟩ := hP
      have hC2 := sm2 _ _ hC
      simp only [Int.zero_add]
      walk_at "s"
      refine ⟨C, _, rfl, DGet.k (k := Sum.inl (2 * (i : Int))) hC2, ?_⟩
      walk_at "s"
      · refine ⟨C, _, rfl, DGet.k (k := Sum.inl (2 * (i : Int) + 1)) hC2, ?_⟩
        walk_at "s"
        · refine ⟨_, e1, sz_less (by rw [List.length_map]; omega), same_mut sm2 hL, es ++ [(i : Int)], ?_, by simp; omega⟩
          show upd _ _ _ _ = _
          rw [upd_same, nums_snoc]
        · exact ⟨es, e1, by omega⟩
      · exact ⟨es, e1, by omega⟩
    · intro H2 hP
      obtain ⟨sm2, es, e1, e2⟩ := hP
      walk_at "s"
      exact q L H2 es (sm1.trans sm2) (sm1.free hL) e1 (by omega)
end
end K17W
set_option Elab.async false
set_option linter.all false
set_option maxRecDepth 100000
set_option maxHeartbeats 4000000
namespace K17W
open PySem PySem.Spec PyProof.Rows L2 TL LW NT
local macro_rules | `(tactic| walk_at "ne") => `(tactic| first
  | (with_reducible assumption)
  | exact Ne.symm (by assumption)
  | (with_reducible exact ne_of_none (by assumption) (by assumption))
  | (with_reducible exact (ne_of_none (by assumption) (by assumption)).symm)
  | (apply ne_of_none; (case h' => assumption); (case h => walk_at "hp"))
  | (apply Ne.symm; apply ne_of_none; (case h' => assumption); (case h => walk_at "hp")))
local macro_rules | `(tactic| walk_at "hp") => `(tactic| first
  | (with_reducible assumption)
  | exact upd_same
  | (with_reducible exact hp_new (by assumption) (by assumption))
  | (apply hp_new; (case n => assumption); (case h => walk_at "hp"))
  | (refine (upd_ne ?ne).trans ?hp; (case ne => walk_at "ne"); (case hp => walk_at "hp")))
local macro_rules | `(tactic| walk_at "sq") => `(tactic| first
  | ((with_reducible show SqL _ _ _ _); assumption)
  | ((with_reducible show SqT _ _ _ _); assumption)
  | exact SqL.of (by assumption)
  | exact SqL.of upd_same
  | exact SqT.of (by assumption)
  | exact SqT.of upd_same
  | (apply SqL.of; walk_at "hp")
  | (apply SqT.of; walk_at "hp"))
local macro_rules | `(tactic| walk_at "len") => `(tactic| first
  | (with_reducible assumption)
  | exact sz_small (by omega)
  | exact sz_less (by omega)
  | decide
  | (refine sz_small ?_; simp only [List.length_append, List.length_cons, List.length_nil, List.length_map, str_len]; omega)
  | (refine sz_less ?_; simp only [List.length_append, List.length_cons, List.length_nil, List.length_map, str_len]; omega))
local macro_rules | `(tactic| walk_at "cond") => `(tactic| first
  | omega
  | (split <;> omega)
  | (with_reducible assumption)
  | exact .inl ⟨by omega, by omega⟩
  | exact .inr ⟨by omega, by omega⟩
  | exact ⟨by omega, by omega⟩
  | (show (0 : Int) < _; omega)
  | (show (0 : Int) < _; decide +kernel)
  | exact ⟨by omega, by omega, by decide⟩
  | walk_at "len"
  | rfl
  | (show CMulW _ _; unfold CMulW; decide +kernel)
  | exact ⟨_, rfl⟩
  | decide +kernel
  | exact ⟨_, by walk_at "sq"⟩
  | exact .inl ⟨rfl, _, by walk_at "sq"⟩)
local macro_rules | `(tactic| walk_at "at") => `(tactic| first
  | (with_reducible assumption)
  | exact atI_nat (by assumption)
  | exact atI_last _ _
  | exact atI_nat (j := 0) rfl
  | exact atI_nat (j := 1) rfl
  | exact atI_nat (j := 2) rfl
  | exact atI_nat (j := 3) rfl
  | exact atI_nat (j := 4) rfl)
local macro_rules | `(tactic| walk_at "ix") => `(tactic| first
  | (with_reducible assumption)
  | (with_reducible exact ixN_0 (by simp; done))
  | (with_reducible exact ixN_1 (by simp; done))
  | (with_reducible exact ixN_2 (by simp; done))
  | (with_reducible exact Evl.ixN_nat (by assumption))
  | (with_reducible exact Evl.ixN_nat (by omega)))
local macro_rules | `(tactic| walk_at "v") => `(tactic| first
  | exact val_var rfl
  | (with_reducible exact val_c)
  | (with_reducible apply val_orV; (case ha => walk_at "v"); (case hb => walk_at "v"))
  | (with_reducible apply val_andV; (case ha => walk_at "v"); (case hb => walk_at "v"))
  | (with_reducible apply val_notV; walk_at "v")
  | (with_reducible apply val_ifS; (case h => walk_at "w"); (case ha => walk_at "v"); (case hb => walk_at "v"))
  | (with_reducible apply val_ifI; (case h => walk_at "w"); (case ha => walk_at "v"); (case hb => walk_at "v"))
  | (with_reducible apply val_ifB; (case h => walk_at "w"); (case ha => walk_at "v"); (case hb => walk_at "v"))
  | (with_reducible apply val_eqS; (case ha => walk_at "v"); (case hb => walk_at "v"))
  | (with_reducible apply val_eqI; (case ha => walk_at "v"); (case hb => walk_at "v"))
  | (with_reducible apply val_neS; (case ha => walk_at "v"); (case hb => walk_at "v"))
  | (with_reducible apply val_neI; (case ha => walk_at "v"); (case hb => walk_at "v"))
  | (with_reducible apply val_op; (case ha => walk_at "v"); (case hb => walk_at "v"); (case hr => exact fun Q q => ⟨_, _, rfl, rfl, q⟩)))
local macro_rules | `(tactic| walk_at "w") => `(tactic| first
  | (with_reducible apply ans_or2; (case h1 => walk_at "w"); (case h2 => walk_at "w"))
  | (with_reducible apply ans_and2; (case h1 => walk_at "w"); (case h2 => walk_at "w"))
  | (with_reducible apply ans_not; walk_at "w")
  | (with_reducible apply ans_test; walk_at "v")
  | (with_reducible apply ans_val; walk_at "v"))
local macro_rules | `(tactic| walk_at "s2") => `(tactic| first
  | refine ⟨_, rfl, ?_⟩
  | refine ⟨_, _, rfl, rfl, ?_⟩
  | (refine And.intro ?cc ?_; (case cc => walk_at "cond"))
  | refine ⟨_, _, _, _, rfl, rfl, by walk_at "sq", by walk_at "at", ?_⟩
  | refine ⟨_, _, _, _, rfl, rfl, by walk_at "hp", by walk_at "ix", ?_⟩
  | refine ⟨_, _, _, _, rfl, rfl, by walk_at "hp", by walk_at "hp", by walk_at "len", ?_⟩
  | refine ⟨_, _, _, rfl, rfl, by walk_at "len", by walk_at "at", ?_⟩
  | refine ⟨_, _, _, rfl, rfl, by walk_at "hp", by walk_at "len", ?_⟩
  | refine ⟨_, _, _, rfl, rfl, by walk_at "hp", by walk_at "at", ?_⟩
  | refine ⟨_, _, rfl, rfl, by walk_at "sq", ?_⟩
  | refine ⟨_, _, rfl, rfl, by walk_at "len", ?_⟩
  | refine ⟨_, _, rfl, by walk_at "sq", ?_⟩
  | refine ⟨_, _, rfl, .inl (by walk_at "sq"), ?_⟩
  | refine ⟨_, _, rfl, .inr (by walk_at "sq"), ?_⟩
  | refine ⟨_, _, rfl, by walk_at "sq", rfl, ?_⟩
  | refine ⟨_, fun _ _ h => h, ?_⟩
  | refine .inl ⟨_, rfl, ?_⟩
  | refine ⟨_, _, .type "int", .type _, true, rfl, ClsV.ty _, .base (.int _), kit_ty (by decide +kernel), ?_⟩
  | refine ⟨_, _, .type "int", .type _, false, rfl, ClsV.ty _, .base (.int _), kit_ty (by decide +kernel), ?_⟩
  | refine ⟨_, _, .type "bool", .type _, true, rfl, ClsV.ty _, .base (.bl _), kit_ty (by decide +kernel), ?_⟩
  | refine ⟨_, _, .type "bool", .type _, false, rfl, ClsV.ty _, .base (.bl _), kit_ty (by decide +kernel), ?_⟩
  | refine ⟨_, _, .type "str", .type _, true, rfl, ClsV.ty _, .base (.str _), kit_ty (by decide +kernel), ?_⟩
  | refine ⟨_, _, .type "str", .type _, false, rfl, ClsV.ty _, .base (.str _), kit_ty (by decide +kernel), ?_⟩
  | refine ⟨_, _, .type "NoneType", .type _, true, rfl, ClsV.ty _, .base (.non), kit_ty (by decide +kernel), ?_⟩
  | refine ⟨_, _, .type "NoneType", .type _, false, rfl, ClsV.ty _, .base (.non), kit_ty (by decide +kernel), ?_⟩
  | refine ⟨_, _, .type "list", .type _, true, rfl, ClsV.ty _, .base (.lst (by walk_at "hp")), kit_ty (by decide +kernel), ?_⟩
  | refine ⟨_, _, .type "list", .type _, false, rfl, ClsV.ty _, .base (.lst (by walk_at "hp")), kit_ty (by decide +kernel), ?_⟩
  | refine ⟨_, _, .type "tuple", .type _, true, rfl, ClsV.ty _, .base (.tup (by walk_at "hp")), kit_ty (by decide +kernel), ?_⟩
  | refine ⟨_, _, .type "tuple", .type _, false, rfl, ClsV.ty _, .base (.tup (by walk_at "hp")), kit_ty (by decide +kernel), ?_⟩
  | fail)
local macro_rules | `(tactic| walk_at "s1") => `(tactic| first
  | (with_reducible refine go_gcons ?_)
  | (with_reducible refine go_gnil ?_)
  | (with_reducible refine go_seqM ?_)
  | (with_reducible refine go_nextM ?_)
  | (with_reducible refine go_contM ?_)
  | (with_reducible refine go_brkM ?_)
  | (with_reducible refine go_retM ?_)
  | (with_reducible refine go_asgM ?_)
  | (with_reducible refine go_test ?_)
  | (with_reducible refine go_rI0 ?_)
  | (with_reducible refine go_op ?_)
  | (with_reducible refine go_var rfl ?_)
  | ((with_reducible show tFor (iRng1 _) _ _ _ _ _); refine (show iRng1 _ _ _ _ from ?_))
  | (with_reducible refine go_rng1 ?_)
  | (with_reducible refine go_c ?_)
  | (with_reducible apply go_pick; (case hs => walk_at "hp"); (case h0 => walk_at "cond"); (case h1 => walk_at "cond"); (case' q => intro k a b c h0 h1))
  | (with_reducible refine go_nil ?_)
  | (with_reducible refine go_cons ?_)
  | (with_reducible refine go_call ?_)
  | (with_reducible refine go_cb ?_)
  | (with_reducible refine go_next ?_)
  | (with_reducible refine go_cont ?_)
  | (with_reducible refine go_ret ?_)
  | (with_reducible refine go_name ?_)
  | (with_reducible refine go_seq ?_)
  | (with_reducible refine go_asg ?_)
  | (with_reducible apply go_or; (case h => walk_at "v"))
  | (with_reducible apply go_and; (case h => walk_at "v"))
  | (with_reducible apply go_andL; (case h => walk_at "v"); (case' h1 => intro e); (case' h2 => intro e))
  | (with_reducible apply go_orL; (case h => walk_at "v"); (case' h1 => intro e); (case' h2 => intro e))
  | (with_reducible apply go_ifE; (case h => walk_at "v"))
  | (with_reducible apply go_ifOr; (case h => walk_at "w"); (case' h1 => intro e); (case' h2 => intro e))
  | (with_reducible apply go_ifAnd; (case h => walk_at "w"); (case' h1 => intro e); (case' h2 => intro e))
  | (with_reducible refine go_min ?_)
  | (with_reducible refine iteT ?_)
  | (with_reducible refine iteF ?_)
  | (with_reducible refine iteD (fun _ => ?_) (fun e => absurd rfl e))
  | (with_reducible refine iteS (fun e => ?_) (fun e => ?_))
  | (with_reducible refine iteI (fun e => ?_) (fun e => ?_))
  | (with_reducible refine iteSn (fun e => ?_) (fun e => ?_))
  | (with_reducible refine iteIn (fun e => ?_) (fun e => ?_))
  | (with_reducible refine iteD (fun e => ?_) (fun e => ?_))
  | (with_reducible refine iteDn (fun e => ?_) (fun e => ?_))
  | (with_reducible refine ite2 (fun e => ?_) (fun e => ?_))
  | (refine fun (p : Addr) (hp : _ = none) => ?_)
  | ((conv => whnf); walk_at "s2")
  | fail)
local macro_rules | `(tactic| walk_at "s") => `(tactic| repeat' (first
  | (with_reducible refine go_gcons ?_)
  | (with_reducible refine go_gnil ?_)
  | (with_reducible refine go_seqM ?_)
  | (with_reducible refine go_nextM ?_)
  | (with_reducible refine go_contM ?_)
  | (with_reducible refine go_brkM ?_)
  | (with_reducible refine go_retM ?_)
  | (with_reducible refine go_asgM ?_)
  | (with_reducible refine go_test ?_)
  | (with_reducible refine go_rI0 ?_)
  | (with_reducible refine go_op ?_)
  | (with_reducible refine go_var rfl ?_)
  | ((with_reducible show tFor (iRng1 _) _ _ _ _ _); refine (show iRng1 _ _ _ _ from ?_))
  | (with_reducible refine go_rng1 ?_)
  | (with_reducible refine go_c ?_)
  | (with_reducible apply go_pick; (case hs => walk_at "hp"); (case h0 => walk_at "cond"); (case h1 => walk_at "cond"); (case' q => intro k a b c h0 h1))
  | (with_reducible refine go_nil ?_)
  | (with_reducible refine go_cons ?_)
  | (with_reducible refine go_call ?_)
  | (with_reducible refine go_cb ?_)
  | (with_reducible refine go_next ?_)
  | (with_reducible refine go_cont ?_)
  | (with_reducible refine go_ret ?_)
  | (with_reducible refine go_name ?_)
  | (with_reducible refine go_seq ?_)
  | (with_reducible refine go_asg ?_)
  | (with_reducible apply go_or; (case h => walk_at "v"))
  | (with_reducible apply go_and; (case h => walk_at "v"))
  | (with_reducible apply go_andL; (case h => walk_at "v"); (case' h1 => intro e); (case' h2 => intro e))
  | (with_reducible apply go_orL; (case h => walk_at "v"); (case' h1 => intro e); (case' h2 => intro e))
  | (with_reducible apply go_ifE; (case h => walk_at "v"))
  | (with_reducible apply go_ifOr; (case h => walk_at "w"); (case' h1 => intro e); (case' h2 => intro e))
  | (with_reducible apply go_ifAnd; (case h => walk_at "w"); (case' h1 => intro e); (case' h2 => intro e))
  | (with_reducible refine go_min ?_)
  | (with_reducible refine iteT ?_)
  | (with_reducible refine iteF ?_)
  | (with_reducible refine iteD (fun _ => ?_) (fun e => absurd rfl e))
  | (with_reducible refine iteS (fun e => ?_) (fun e => ?_))
  | (with_reducible refine iteI (fun e => ?_) (fun e => ?_))
  | (with_reducible refine iteSn (fun e => ?_) (fun e => ?_))
  | (with_reducible refine iteIn (fun e => ?_) (fun e => ?_))
  | (with_reducible refine iteD (fun e => ?_) (fun e => ?_))
  | (with_reducible refine iteDn (fun e => ?_) (fun e => ?_))
  | (with_reducible refine ite2 (fun e => ?_) (fun e => ?_))
  | (refine fun (p : Addr) (hp : _ = none) => ?_)
  | ((conv => whnf); walk_at "s2")
  | fail))

theorem same_l {H H' : Hp} {K : PySem.W.Frag} {a : Addr} {xs : List V} (e : Same H H') (h : SqL K H a xs) : SqL K H' a xs := by
  rcases h with (h | ⟨o, h⟩) | h
  · exact .inl (.inl (e _ _ h))
  · exact .inl (.inr ⟨o, e _ _ h⟩)
  · exact .inr h
theorem rowsHid {H : Hp} {r s : Addr} {rs : List Rw} {ys : List V} (h : RowsT H r rs) (hr : r ≠ s) (hs : H s = some (.lst ys)) : RowsT (wo s H) r rs := by
  obtain ⟨xs, h1, h2⟩ := h
  exact ⟨xs, (wo_ne hr).trans h1, h2.mono fun _ _ => RowT.ts ((Ts.refl H).hid hs)⟩
/-- a list of lists of numbers -/
def LotsAt (H : Hp) (l : Addr) (n : Nat) : Prop := ∃ bs : List V, H l = some (.lst bs) ∧ bs.length = n ∧ ∀ b ∈ bs, ∃ (c : Addr) (ks : List Int), b = .ref c ∧ Ints H c ks ∧ ks.length ≤ 20
theorem LotsAt.same {H H' : Hp} (e : Same H H') {l : Addr} {n : Nat} : LotsAt H l n → LotsAt H' l n := fun ⟨bs, h1, h2, h3⟩ => ⟨bs, e _ _ h1, h2, fun b hb => by
  obtain ⟨c, ks, a1, a2, a3⟩ := h3 b hb
  exact ⟨c, ks, a1, e _ _ a2, a3⟩⟩
def WorldAt {w : World} {K : PySem.W.Frag} {mg : Str → Option Value} (T : Top w K mg) (H : Hp) (v : V) : Prop := ∃ (t p r l : Addr) (rs : List Rw), v = .ref t ∧ H t = some (.tup [.ref p, .ref r, .ref l]) ∧ NetAt T H p rs ∧ RowsT H r rs ∧ WF rs ∧ 0 < rs.length ∧ rs.length ≤ 20 ∧ LotsAt H l 5
theorem WorldAt.same {w : World} {K : PySem.W.Frag} {mg : Str → Option Value} {T : Top w K mg} {H H' : Hp} (e : Same H H') {v : V} : WorldAt T H v → WorldAt T H' v := fun ⟨t, p, r, l, rs, h1, h2, h3, h4, h5, h6, h7, h8⟩ => ⟨t, p, r, l, rs, h1, e _ _ h2, h3.same e, h4.same e, h5, h6, h7, h8.same e⟩
section
variable {P : Program} {w : World} {K : PySem.W.Frag} {mg : Str → Option Value} {base : Heap}
theorem canLay_ints : ∀ (l : List Int), PyData.canLayAll0 (l.map PyData.int) = true
  | [] => by simp [PyData.canLayAll0]
  | x :: l => by
    rw [List.map_cons]
    simp [PyData.canLayAll0, PyData.canLay0, canLay_ints l]
theorem depth_ints : ∀ (l : List Int), PyData.depthAll (l.map PyData.int) = 0
  | [] => by simp [PyData.depthAll]
  | x :: l => by
    rw [List.map_cons]
    simp [PyData.depthAll, PyData.depth, depth_ints l]
theorem shaped_ints (l : List Int) : SeqAt.shaped (.list (l.map PyData.int)) = true := by
  unfold SeqAt.shaped
  simp [PyData.canLay0, PyData.depth, canLay_ints, depth_ints]
theorem eqv_ints (l : List Int) : PyData.eqv (.list (l.map PyData.int)) (.list (l.map PyData.int)) = true := SeqAt.eqv_refl _ (SeqAt.canLay_of_shaped (shaped_ints l))
theorem dp_all {K : PySem.W.Frag} {H : Hp} : ∀ (l : List Int), DpAll K H (l.map V.int) (l.map PyData.int)
  | [] => .nil
  | x :: l => .cons (.int x) (dp_all l)
theorem dp_ints {K : PySem.W.Frag} {H : Hp} {a : Addr} {l : List Int} (h : Ints H a l) : Dp K H (.ref a) (.list (l.map PyData.int)) := .lst (SqL.of h) (dp_all l)
theorem dep_ints (l : List Int) : dep (.list (l.map PyData.int)) < 2 := by
  have : ∀ l : List Int, depAll (l.map PyData.int) = 0 := fun l => by
    induction l with
    | nil => rfl
    | cons x r ih =>
      show max (dep (.int x)) (depAll (r.map PyData.int)) = 0
      rw [ih]
      rfl
  unfold dep
  rw [this]
  omega
theorem dt_ints {H : Hp} {a : Addr} {l : List Int} (h : Ints H a l) : Dt H (.ref a) (.list (l.map PyData.int)) := dt_list h (da_ints l)
def spLaw (K : PySem.W.Frag) : Sp := fun vs H Q _ => ∃ (a : Addr) (ns : List Int), vs = [.ref a] ∧ SqL K H a (ns.map V.int) ∧ ns.length ≤ 63 ∧ ∀ H', Q (.bl true) H'
theorem ok_law (T : Top w K mg) : FnOk P w K mg base CX0 6 T.a_law T.d_law ["script"] (spLaw K) := by
  have G_law_source := ok_source (P := P) (w := w) (base := base) T
  have G_law_pick := ok_pick (P := P) (w := w) (base := base) T
  have G_law_c_net := ok_net (P := P) (w := w) (base := base) T
  have G_law_c_goals := ok_goals (P := P) (w := w) (base := base) T
  have G_law_c_earliest := ok_earliest (P := P) (w := w) (base := base) T
  have G_law_c_made := ok_cmade (P := P) (w := w) (base := base) T
  have G_law_c_around := ok_cway (P := P) (w := w) (base := base) T
  have G_law_same := ok_same (P := P) (w := w) (base := base) T 2
  have G_Net___init__ := ok_init (P := P) (w := w) (base := base) T
  have G_Net_made := ok_netmade (P := P) (w := w) (base := base) T
  have G_Net_around := ok_netway (P := P) (w := w) (base := base) T
  refine T.F_law.ok sc_law (fun vs H Q E h => ?_) (fun cdv A outer s H vs Q E hr h => ?_)
  · obtain ⟨a, ns, rfl, _⟩ := h
    rfl
  · obtain ⟨a, ns, rfl, hS, hn, q⟩ := h
    refine ⟨_, (pss_cons (ps_set (i := 1) sc_law.nd rfl (.inl rfl) (pe_lst pa_nil))
    (pss_cons (ps_for PassesOwn.never rfl (pi_range1 rfl T.m_range (pa_cons pe_int pa_nil)) (pg_name (i := 2) sc_law.nd rfl (.inl rfl))
    (pss_cons (ps_set (i := 3) sc_law.nd rfl (.inr rfl) (pe_call G_law_source (hr.mono (by omega)) (by rfl) T.m_law_source T.F_law_source.kp T.b_law_source .nil pass0 (pa_cons (pv 0) (pa_cons (pv 2) pa_nil))))
    (pss_cons (ps_set (i := 4) sc_law.nd rfl (.inr rfl) (pe_call G_law_c_net (hr.mono (by omega)) (by rfl) T.m_law_c_net T.F_law_c_net.kp T.b_law_c_net .nil pass0 (pa_cons (pv 3) (pa_cons (pe_op op_add pe_int (pe_call G_law_pick (hr.mono (by omega)) (by rfl) T.m_law_pick T.F_law_pick.kp T.b_law_pick .nil pass0 (pa_cons (pv 3) (pa_cons pe_int pa_nil)))) pa_nil))))
    (pss_cons (ps_setLc (i := 5) (own := [("one", 13)]) rfl sc_law.nd rfl rfl (sw_true rfl rfl rfl (by decide +kernel)) (pi_range1 rfl T.m_range (pa_cons pe_int pa_nil)) (blkOk_by (own := [("one", 13)]) (N := ["script", "worlds", "turn", "source", "rows", "lots", "goals", "at", "net", "kept", "flags", "told", "node", "one", "k"]) (sc := defScope s_law) (by decide +kernel)) (fun _ _ _ _ _ => (pg_name (i := 13) sc_law.nd rfl (.inl rfl))) (fun _ _ _ _ _ => pts_nil) (fun _ _ _ _ _ => (pe_lc (own := [("k", 14)]) rfl sc_law.nd (pi_range1 rfl T.m_range (pa_cons (pe_op op_add pe_int (pe_call G_law_pick (hr.mono (by omega)) (by rfl) T.m_law_pick T.F_law_pick.kp T.b_law_pick .nil pass0 (pa_cons (pv 3) (pa_cons pe_int pa_nil)))) pa_nil)) (blkOk_by (own := [("k", 14)]) (by kernel_rfl)) (fun _ _ _ _ _ => (pg_name (i := 14) sc_law.nd rfl (.inl rfl))) (fun _ _ _ _ _ => pts_nil) (fun _ _ _ _ _ => (pe_call G_law_pick (hr.mono (by omega)) (by rfl) T.m_law_pick T.F_law_pick.kp T.b_law_pick .nil pass0 (pa_cons (pv 3) (pa_cons (pe_callB (call_lenB (K := K) rfl) (by rfl) T.m_len (by decide +kernel) (pa_cons (pv 4) pa_nil)) pa_nil)))))))
    (pss_cons (ps_set (i := 6) sc_law.nd rfl (.inl rfl) (pe_call G_law_c_goals (hr.mono (by omega)) (by rfl) T.m_law_c_goals T.F_law_c_goals.kp T.b_law_c_goals .nil pass0 (pa_cons (pv 3) (pa_cons (pv 4) (pa_cons pe_int pa_nil)))))
    (pss_one (ps_expr (pe_bm PySem.F.plainAttrs_list PySem.F.slot_list_append PySem.F.type_list_append mt_append (pv 1) (pa_cons (pe_tup (pa_cons (pe_make T.M_Net___init__ G_Net___init__ (hr.mono (by omega)) rfl T.m_Net T.b_Net___init__ .nil pass0 (pa_cons (pv 4) pa_nil)) (pa_cons (pv 4) (pa_cons (pe_op op_cat (pv 5) (pe_lst (pa_cons (pe_lst pa_nil) (pa_cons (pe_call G_law_c_earliest (hr.mono (by omega)) (by rfl) T.m_law_c_earliest T.F_law_c_earliest.kp T.b_law_c_earliest .nil pass0 (pa_cons (pv 4) (pa_cons (pv 6) pa_nil))) (pa_cons (pe_listRg rfl (by rfl) T.m_list (prg_1 (by rfl) T.m_range (pe_callB call_len_seq (by rfl) T.m_len (by decide +kernel) (pa_cons (pv 4) pa_nil)))) pa_nil))))) pa_nil)))) pa_nil)))))))))
    (pss_cons (ps_for PassesOwn.never rfl (pi_range1 rfl T.m_range (pa_cons pe_int pa_nil)) (pg_name (i := 7) sc_law.nd rfl (.inl rfl))
    (pss_one (ps_for PassesOwn.never rfl (pi_list (pv 1)) (pg_tup rfl (pgs_cons (pg_name (i := 8) sc_law.nd rfl (.inl rfl)) (pgs_cons (pg_name (i := 4) sc_law.nd rfl (.inr rfl)) (pgs_cons (pg_name (i := 5) sc_law.nd rfl (.inl rfl)) pgs_nil))))
    (pss_cons (ps_set (i := 9) sc_law.nd rfl (.inl rfl) (pe_callTy call_list_of (by rfl) T.m_list (by decide +kernel) (pa_cons (pe_ix ix_list (pv 5) (pv 7) (fun _ _ => rfl)) pa_nil)))
    (pss_cons (ps_set (i := 10) sc_law.nd rfl (.inr rfl) (pe_call G_law_c_made (hr.mono (by omega)) (by rfl) T.m_law_c_made T.F_law_c_made.kp T.b_law_c_made .nil pass0 (pa_cons (pv 4) (pa_cons (pv 9) pa_nil))))
    (pss_cons (ps_set (i := 11) sc_law.nd rfl (.inl rfl) (pe_meth (pv 8) T.cl_Net T.M_Net_made G_Net_made (hr.mono (by omega)) T.b_Net_made .nil pass0 (pa_cons (pv 9) pa_nil)))
    (pss_cons (ps_if (pt_not (pt_val (pe_call G_law_same (hr.mono (by omega)) (by rfl) T.m_law_same T.F_law_same.kp T.b_law_same .nil pass0 (pa_cons (pv 11) (pa_cons (pe_lc (own := [("node", 12)]) rfl sc_law.nd (pi_range1 rfl T.m_range (pa_cons (pe_callB call_len_seq (by rfl) T.m_len (by decide +kernel) (pa_cons (pv 4) pa_nil)) pa_nil)) (blkOk_by (own := [("node", 12)]) (N := ["script", "worlds", "turn", "source", "rows", "lots", "goals", "at", "net", "kept", "flags", "told", "node", "one", "k"]) (sc := defScope s_law) (by decide +kernel)) (fun _ _ _ _ _ => (pg_name (i := 12) sc_law.nd rfl (.inl rfl))) (fun _ _ _ _ _ => pts_one (pt_val (pe_ix (ix_listB (K := K) rfl) (pv 10) (pv 12) (fun _ _ => rfl)))) (fun _ _ _ _ _ => (pv 12))) pa_nil)))))
    (pss_one (ps_ret pe_bl))
    pss_nil)
    (pss_cons (ps_expr (pe_bm PySem.F.plainAttrs_list PySem.F.slot_list_append PySem.F.type_list_append mt_append (pv 11) (pa_cons pe_int pa_nil)))
    (pss_cons (ps_for PassesOwn.never rfl (pi_range1 rfl T.m_range (pa_cons (pe_callB call_len_seq (by rfl) T.m_len (by decide +kernel) (pa_cons (pv 4) pa_nil)) pa_nil)) (pg_name (i := 12) sc_law.nd rfl (.inl rfl))
    (pss_one (ps_if (pt_not (pt_val (pe_call G_law_same (hr.mono (by omega)) (by rfl) T.m_law_same T.F_law_same.kp T.b_law_same .nil pass0 (pa_cons (pe_meth (pv 8) T.cl_Net T.M_Net_around G_Net_around (hr.mono (by omega)) T.b_Net_around .nil pass0 (pa_cons (pe_ifExp (pt_cmpR op_eq (pv 12) (pv 7) (nomark _)) (pe_callTy call_tuple_of (by rfl) T.m_tuple (by decide +kernel) (pa_cons (pv 9) pa_nil)) (pv 9)) (pa_cons (pv 12) pa_nil))) (pa_cons (pe_call G_law_c_around (hr.mono (by omega)) (by rfl) T.m_law_c_around T.F_law_c_around.kp T.b_law_c_around .nil pass0 (pa_cons (pv 4) (pa_cons (pv 9) (pa_cons (pv 12) pa_nil)))) pa_nil)))))
    (pss_one (ps_ret pe_bl))
    pss_nil)))
    (pss_one (ps_if (pt_cmpR (op_neD hr.units) (pv 9) (pe_ix ix_list (pv 5) (pv 7) (fun _ _ => rfl)) (nomark _))
    (pss_one (ps_ret pe_bl))
    pss_nil)))))))))))
    (pss_one (ps_ret pe_bl))))), ?_⟩
    walk_at "s"
    rename_i W hW0
    refine for_rangeQ (lo := 0) (n := 2) Q rfl (fun i σ H2 => ∃ (v2 v3 v4 v5 v6 v7 v8 v9 v10 v11 v12 v13 v14 : Option V) (ys : List V), σ = [some (.ref a), some (.ref W), v2, v3, v4, v5, v6, v7, v8, v9, v10, v11, v12, v13, v14] ∧ Same H H2 ∧ H2 W = some (.lst ys) ∧ ys.length = i ∧ ∀ v ∈ ys, WorldAt T (wo W H2) v) ?_ ?_ ?_
    · exact ⟨_, _, _, _, _, _, _, _, _, _, _, _, _, [], rfl, same_new hW0, upd_same, rfl, by simp⟩
    · intro N X i σ H2 hi hP hN
      obtain ⟨v2, v3, v4, v5, v6, v7, v8, v9, v10, v11, v12, v13, v14, ys, rfl, sm2, hW, hyl, hys⟩ := hP
      simp only [Int.zero_add]
      walk_at "s"
      refine ⟨a, ns, i, rfl, same_l sm2 hS, hn, by omega, fun s c1 c2 c3 H3 sm3 ns3 hs3 => ?_⟩
      walk_at "s"
      rename_i k0 b1 b2 b3 k1 k2
      have nWs : W ≠ s := ne_of_none hW ns3
      refine ⟨s, 1 + k0, rfl, ⟨b1, b2, b3, upd_same⟩, by omega, by omega, fun r H5 rs but5 nr hs5 hR hWF hlen => ?_⟩
      have nsr : s ≠ r := ne_of_none upd_same nr
      have hW4 : upd H3 s (.lst [.int b1, .int b2, .int b3]) W = some (.lst ys) := (upd_ne nWs).trans (sm3 _ _ hW)
      have nWr : W ≠ r := ne_of_none hW4 nr
      have hW5 := but5 _ _ nWs hW4
      obtain ⟨d1, d2, d3, hs5⟩ := hs5
      have hRs : RowsT (wo s H5) r rs := rowsHid hR nsr.symm hs5
      obtain ⟨xs, hX, hE⟩ := id hR
      have hXl := hE.len
      have but25 : But s H2 H5 := ((But.of sm3).trans But.upd).trans but5
      walk_at "s"
      rename_i D hD
      have nsD : s ≠ D := ne_of_none hs5 hD
      have nWD : W ≠ D := ne_of_none hW5 hD
      refine lc_range (lo := 0) (n := 2) (fun i H6 => But s H5 H6 ∧ Src H6 s ∧ ∃ bs : List V, H6 D = some (.lst bs) ∧ bs.length = i ∧ ∀ b ∈ bs, ∃ (c : Addr) (ks : List Int), b = .ref c ∧ Ints H6 c ks ∧ ks.length ≤ 20 ∧ c ≠ s ∧ c ≠ D ∧ c ≠ W) ?_ ?_ ?_
      · exact ⟨.of (same_new hD), ⟨d1, d2, d3, hp_new hs5 hD⟩, [], upd_same, rfl, by simp⟩
      · intro j H6 hj hP
        obtain ⟨but6, ⟨c1, c2, c3, hs6⟩, bs, hD6, hbl, hbs⟩ := hP
        have hX6 := but6 _ _ nsr.symm hX
        walk_at "s"
        rename_i kk a1 a2 a3 kk0 kk1 L hL
        have nsL : s ≠ L := ne_of_none upd_same hL
        have nDL : D ≠ L := ne_of_none ((upd_ne nsD.symm).trans hD6) hL
        have nWL : W ≠ L := ne_of_none ((upd_ne nWs).trans (but6 _ _ nWs hW5)) hL
        have hL6 : H6 L = none := by
          rw [upd_ne nsL.symm] at hL
          exact hL
        refine lc_range (lo := 0) (n := (1 + kk).toNat) (fun n H7 => But s H6 H7 ∧ Src H7 s ∧ ∃ ks : List Int, Ints H7 L ks ∧ ks.length = n) ?_ ?_ ?_
        · exact ⟨But.upd.trans' (same_new hL), ⟨a1, a2, a3, hp_new upd_same hL⟩, [], upd_same, rfl⟩
        · intro n H7 hn7 hP
          obtain ⟨but7, ⟨c1, c2, c3, hs7⟩, ks, hL7, hkl⟩ := hP
          have hX7 := but7 _ _ nsr.symm hX6
          have hxl0 : (0 : Int) < xs.length := by omega
          have hxl1 : (xs.length : Int) < 1073741824 := by omega
          walk_at "s"
          rename_i k3 a4 a5 a6 k30 k31
          refine ⟨_, (upd_ne nsL.symm).trans hL7, sz_less (by rw [List.length_map]; omega), but_mut (but7.trans But.upd) hL6, ⟨a4, a5, a6, (upd_ne nsL).trans upd_same⟩, ks ++ [k3], ?_, by simp [hkl]⟩
          show upd _ _ _ _ = _
          rw [upd_same, nums_snoc]
        · intro H7 hP
          obtain ⟨but7, ⟨c1, c2, c3, hs7⟩, ks, hL7, hkl⟩ := hP
          have hD7 := but7 _ _ nsD.symm hD6
          refine ⟨_, hD7, sz_less (by omega), but_mut (but6.trans but7) hD, ⟨c1, c2, c3, (upd_ne nsD).trans hs7⟩, _, upd_same, by simp [hbl], ?_⟩
          intro b hb
          rcases List.mem_append.mp hb with hb | hb
          · obtain ⟨c, ms, e1, e2, e3, e4, e5, e6⟩ := hbs b hb
            exact ⟨c, ms, e1, (upd_ne e5).trans (but7 _ _ e4 e2), e3, e4, e5, e6⟩
          · rw [List.mem_singleton] at hb
            exact ⟨L, ks, hb, (upd_ne nDL.symm).trans hL7, by omega, nsL.symm, nDL.symm, nWL.symm⟩
      · intro H6 hP
        obtain ⟨but6, ⟨c1, c2, c3, hs6⟩, bs, hD6, hbl, hbs⟩ := hP
        have hR6 : RowsT H6 r rs := hRs.same but6.hid1
        walk_at "s"
        refine ⟨s, r, rs, rfl, ⟨c1, c2, c3, hs6⟩, hR6, nsr, by omega, by omega, fun g H9 gs but9 ng hs9 hg hgl => ?_⟩
        have hR9 : RowsT H9 r rs := (hRs.same but6.hid).same but9.hid1
        have hD9 := but9 _ _ nsD.symm hD6
        have hbs9 : ∀ b ∈ bs, ∃ (c : Addr) (ks : List Int), b = .ref c ∧ Ints H9 c ks ∧ ks.length ≤ 20 ∧ c ≠ W := by
          intro b hb
          obtain ⟨c, ms, e1, e2, e3, e4, e5, e6⟩ := hbs b hb
          exact ⟨c, ms, e1, but9 _ _ e4 e2, e3, e6⟩
        have hW9 := but9 _ _ nWs (but6 _ _ nWs hW5)
        have but29 : But s H2 H9 := (but25.trans but6).trans but9
        have sm29 : Same H2 H9 := but29.same ns3
        walk_at "s"
        intro p dx np ndx npdx
        have smA : Same H9 (upd (upd H9 dx (.own p)) p (.ins T.C_Net dx [])) := (same_new ndx).trans (same_new ((upd_ne npdx.symm).trans np))
        refine ⟨p, r, dx, rs, rfl, upd_same, hR9.same smA, hWF, by omega, fun H10 but10 hnet => ⟨rfl, ?_⟩⟩
        have sm10 : Same H9 H10 := (((But.of (same_new ndx)).trans But.upd).trans but10).same np
        have hW10 := sm10 _ _ hW9
        have hNet : NetAt T (wo W H10) p rs := hnet.hid (smA _ _ hW9) hW10
        have hR10 := hR9.same sm10
        have hRow : RowsT (wo W H10) r rs := rowsHid hR10 nWr.symm hW10
        have hD10 := sm10 _ _ hD9
        have hX10 := sm10 _ _ (but9 _ _ nsr.symm (but6 _ _ nsr.symm hX))
        have hg10 := sm10 _ _ hg
        walk_at "s"
        rename_i e1 he1
        have smB : Same H10 (upd H10 e1 (.lst [])) := same_new he1
        refine ⟨r, g, rs, gs, rfl, hR10.same smB, hWF, by omega, smB _ _ hg10, fun l H12 es sm12 nl hl hel => ?_⟩
        have smC : Same H10 H12 := smB.trans sm12
        have hX12 := smC _ _ hX10
        walk_at "s"
        rename_i rg hrg t3 ht3
        have hD14 := hp_new (x := .lst [.ref e1, .ref l, .ref rg]) (hp_new (x := .lst (rgV 0 (xs.length : Int))) (smC _ _ hD10) hrg) ht3
        have hW14 := hp_new (x := .lst [.ref e1, .ref l, .ref rg]) (hp_new (x := .lst (rgV 0 (xs.length : Int))) (smC _ _ hW10) hrg) ht3
        walk_at "s"
        rename_i ct hct t ht
        have hW15 := hp_new (x := .lst (bs ++ [.ref e1, .ref l, .ref rg])) hW14 hct
        have hW16 := hp_new (x := .tup [.ref p, .ref r, .ref ct]) hW15 ht
        walk_at "s"
        have smD : Same H12 (upd (upd H12 rg (.lst (rgV 0 (xs.length : Int)))) t3 (.lst [.ref e1, .ref l, .ref rg])) := (same_new hrg).trans (same_new ht3)
        have smE : Same (upd (upd H12 rg (.lst (rgV 0 (xs.length : Int)))) t3 (.lst [.ref e1, .ref l, .ref rg])) (upd (upd (upd (upd H12 rg (.lst (rgV 0 (xs.length : Int)))) t3 (.lst [.ref e1, .ref l, .ref rg])) ct (.lst (bs ++ [.ref e1, .ref l, .ref rg]))) t (.tup [.ref p, .ref r, .ref ct])) := (same_new hct).trans (same_new ht)
        have rg1 : upd (upd (upd (upd H12 rg (.lst (rgV 0 (xs.length : Int)))) t3 (.lst [.ref e1, .ref l, .ref rg])) ct (.lst (bs ++ [.ref e1, .ref l, .ref rg]))) t (.tup [.ref p, .ref r, .ref ct]) rg = some (.lst (rgV 0 (xs.length : Int))) := smE _ _ (hp_new upd_same ht3)
        have ct1 : upd (upd (upd (upd H12 rg (.lst (rgV 0 (xs.length : Int)))) t3 (.lst [.ref e1, .ref l, .ref rg])) ct (.lst (bs ++ [.ref e1, .ref l, .ref rg]))) t (.tup [.ref p, .ref r, .ref ct]) ct = some (.lst (bs ++ [.ref e1, .ref l, .ref rg])) := hp_new upd_same ht
        have t1 : upd (upd (upd (upd H12 rg (.lst (rgV 0 (xs.length : Int)))) t3 (.lst [.ref e1, .ref l, .ref rg])) ct (.lst (bs ++ [.ref e1, .ref l, .ref rg]))) t (.tup [.ref p, .ref r, .ref ct]) t = some (.tup [.ref p, .ref r, .ref ct]) := upd_same
        have smU : Same H12 (upd (upd (upd (upd H12 rg (.lst (rgV 0 (xs.length : Int)))) t3 (.lst [.ref e1, .ref l, .ref rg])) ct (.lst (bs ++ [.ref e1, .ref l, .ref rg]))) t (.tup [.ref p, .ref r, .ref ct])) := smD.trans smE
        have nWt : t ≠ W := (ne_of_none hW15 ht).symm
        have nWc : ct ≠ W := (ne_of_none hW14 hct).symm
        have nWg : rg ≠ W := (ne_of_none (smC _ _ hW10) hrg).symm
        have nWl : l ≠ W := (ne_of_none (smB _ _ hW10) nl).symm
        have nWe : e1 ≠ W := (ne_of_none hW10 he1).symm
        generalize upd (upd (upd (upd H12 rg (.lst (rgV 0 (xs.length : Int)))) t3 (.lst [.ref e1, .ref l, .ref rg])) ct (.lst (bs ++ [.ref e1, .ref l, .ref rg]))) t (.tup [.ref p, .ref r, .ref ct]) = HU at rg1 ct1 t1 smU hW16
        have sm10U : Same H10 HU := smC.trans smU
        have butE : But W H10 (upd HU W (.lst (ys ++ [.ref t]))) := (But.of sm10U).trans But.upd
        have but2E : But W H2 (upd HU W (.lst (ys ++ [.ref t]))) := (But.of (sm29.trans sm10)).trans butE
        have hid : ∀ {b : Addr} {o : HO}, b ≠ W → HU b = some o → wo W (upd HU W (.lst (ys ++ [.ref t]))) b = some o := fun n h => (wo_ne n).trans ((upd_ne n).trans h)
        refine hN _ _ ⟨_, _, _, _, _, _, _, _, _, _, _, _, _, ys ++ [.ref t], rfl, same_mut ((sm2.trans sm29).trans (sm10.trans sm10U)) hW0, upd_same, by simp [hyl], fun v hv => ?_⟩
        rcases List.mem_append.mp hv with hv | hv
        · exact (hys v hv).same but2E.hid
        · rw [List.mem_singleton] at hv
          refine ⟨t, p, r, ct, rs, hv, hid nWt t1, hNet.same butE.hid, hRow.same butE.hid, hWF, by omega, by omega, bs ++ [.ref e1, .ref l, .ref rg], hid nWc ct1, by simp [hbl], fun b hb => ?_⟩
          rcases List.mem_append.mp hb with hb | hb
          · obtain ⟨c, ms, q1, q2, q3, q4⟩ := hbs9 b hb
            exact ⟨c, ms, q1, hid q4 (sm10U _ _ (sm10 _ _ q2)), q3⟩
          · rcases List.mem_cons.mp hb with hb | hb
            · exact ⟨e1, [], hb, hid nWe (smU _ _ (sm12 _ _ upd_same)), by simp⟩
            · rcases List.mem_cons.mp hb with hb | hb
              · exact ⟨l, es, hb, hid nWl (smU _ _ hl), hel⟩
              · rw [List.mem_singleton] at hb
                refine ⟨rg, (List.range ((xs.length : Int) - 0).toNat).map fun (n : Nat) => (0 : Int) + (n : Int), hb, ?_, by rw [List.length_map, List.length_range]; omega⟩
                refine (hid nWg rg1).trans ?_
                unfold rgV
                rw [List.map_map]
                rfl
    · intro σ H2 hP
      obtain ⟨v2, v3, v4, v5, v6, v7, v8, v9, v10, v11, v12, v13, v14, ys, rfl, sm2, hW, hyl, hys⟩ := hP
      have hys : ∀ v ∈ ys, WorldAt T H2 v := fun v hv => (hys v hv).same wo_same
      walk_at "s"
      refine for_rangeQ (lo := 0) (n := 5) Q rfl (fun i σ H3 => ∃ (v2 v3 v4 v5 v6 v7 v8 v9 v10 v11 v12 v13 v14 : Option V), σ = [some (.ref a), some (.ref W), v2, v3, v4, v5, v6, v7, v8, v9, v10, v11, v12, v13, v14] ∧ Same H2 H3) ?_ ?_ ?_
      · exact ⟨_, _, _, _, _, _, _, _, _, _, _, _, _, rfl, Same.refl _⟩
      · intro N X i σ H3 hi hP hN
        obtain ⟨v2, v3, v4, v5, v6, v7, v8, v9, v10, v11, v12, v13, v14, rfl, sm3⟩ := hP
        have hW3 := sm3 _ _ hW
        simp only [Int.zero_add]
        walk_at "s"
        refine for_listQ (xs := ys) Q rfl (fun j σ H4 => ∃ (v2 v3 v4 v5 v6 v8 v9 v10 v11 v12 v13 v14 : Option V), σ = [some (.ref a), some (.ref W), v2, v3, v4, v5, v6, some (.int (i : Int)), v8, v9, v10, v11, v12, v13, v14] ∧ Same H2 H4) ?_ ?_ ?_ ?_
        · exact ⟨_, _, _, _, _, _, _, _, _, _, _, _, rfl, sm3⟩
        · intro j σ H4 hj hP
          obtain ⟨v2, v3, v4, v5, v6, v8, v9, v10, v11, v12, v13, v14, rfl, sm4⟩ := hP
          exact SqL.of (sm4 _ _ hW)
        · intro N2 X2 j x σ H4 hj hP hN2
          obtain ⟨v2, v3, v4, v5, v6, v8, v9, v10, v11, v12, v13, v14, rfl, sm4⟩ := hP
          obtain ⟨t, p, r, l, rs, rfl, ht, hNet, hR, hWF, hl0, hl1, bs, hbs, hbl, hbe⟩ := (hys x (List.mem_of_getElem? hj)).same sm4
          have hib : i < bs.length := by omega
          obtain ⟨c, ks, ec, hc, hkl⟩ := hbe _ (List.getElem_mem hib)
          have hat : atI bs (i : Int) = some (.ref c) := atI_nat (by rw [List.getElem?_eq_getElem hib, ec])
          have hc' : H4 c = some (.lst (ks.map V.int)) := hc
          walk_at "s"
          rename_i kp nkp
          have smK : Same H4 (upd H4 kp (.lst (ks.map V.int))) := same_new nkp
          refine ⟨r, kp, rs, ks, rfl, hR.same smK, hWF, hl1, upd_same, fun fl H6 sm6 nfl hfl => ?_⟩
          have hk6 : Ints H6 kp ks := sm6 _ _ upd_same
          have sm46 : Same H4 H6 := smK.trans sm6
          walk_at "s"
          obtain ⟨dx, on, hp, hRL⟩ := id hNet
          refine ⟨p, dx, _, rfl, sm46 _ _ hp, rfl, ?_⟩
          walk_at "s"
          refine ⟨p, kp, rs, ks, rfl, hNet.same sm46, hWF, hl1, by omega, .inl hk6, fun td H7 sm7 ntd htd => ?_⟩
          have sm47 : Same H4 H7 := sm46.trans sm7
          have hfl7 := sm7 _ _ hfl
          obtain ⟨xs, hX, hE⟩ := hR.same sm47
          have hXl := hE.len
          walk_at "s"
          rename_i D nD
          have hml : (made rs ks).length ≤ rs.length := by
            unfold made
            rw [List.length_map]
            have := List.length_filter_le (fun (n : Nat) => flag (flags rs ks) (n : Int)) (List.range rs.length)
            rw [List.length_range] at this
            exact this
          refine lc_range (lo := 0) (n := ((xs.length : Int)).toNat) (fun m H8 => Same H7 H8 ∧ Ints H8 D (((List.range m).filter fun (n : Nat) => flag (flags rs ks) (n : Int)).map fun (n : Nat) => (n : Int))) ?_ ?_ ?_
          · exact ⟨same_new nD, upd_same⟩
          · intro m H8 hm hP
            obtain ⟨sm8, h8⟩ := hP
            have hfl8 := sm8 _ _ hfl7
            simp only [Int.zero_add]
            have hil : m < rs.length := by omega
            walk_at "s"
            refine ⟨_, _, _, _, rfl, rfl, SqL.of hfl8, at_flag (o := (m : Int)) (by omega) (by rw [flags_len]; omega), ?_⟩
            walk_at "s"
            · rename_i e
              refine ⟨_, h8, ?_, same_mut sm8 nD, ?_⟩
              · have := List.length_filter_le (fun (n : Nat) => flag (flags rs ks) (n : Int)) (List.range m)
                rw [List.length_range] at this
                exact sz_less (by simp only [List.length_map]; omega)
              · show upd _ _ _ _ = _
                rw [upd_same, List.range_succ, List.filter_append, List.map_append, List.map_append, List.filter_cons, if_pos e]
                rfl
            · rename_i e
              show H8 D = _
              rw [List.range_succ, List.filter_append, List.map_append, List.map_append, List.filter_cons, if_neg e]
              rw [show ∀ l : List V, l ++ List.map V.int (List.map (fun (n : Nat) => (n : Int)) (List.filter (fun (n : Nat) => flag (flags rs ks) (n : Int)) [])) = l from fun l => List.append_nil l]
              exact h8
          · intro H8 hP
            obtain ⟨sm8, h8⟩ := hP
            rw [show ((xs.length : Int)).toNat = rs.length from by omega] at h8
            have h8 : Ints H8 D (made rs ks) := h8
            walk_at "s"
            refine ⟨_, _, .list ((made rs ks).map PyData.int), rfl, dt_ints (sm8 _ _ htd), dt_ints h8, dep_ints _, fun H9 sm9 => ?_⟩
            have htd9 : H9 td = some (.lst ((made rs ks).map V.int)) := sm9 _ _ (sm8 _ _ htd)
            have sm49 : Same H4 H9 := (sm47.trans sm8).trans sm9
            have ntd4 : H4 td = none := sm46.free ntd
            have smB : Same H4 (upd H9 td (.lst ((made rs ks).map V.int ++ [.int 0]))) := same_mut sm49 ntd4
            have hml2 : ((made rs ks).map V.int).length ≤ 20 := by
              rw [List.length_map]
              omega
            have nkt : kp ≠ td := ne_of_none hk6 ntd
            have nrt : r ≠ td := by
              obtain ⟨xs4, hX4, _⟩ := hR
              exact ne_of_none hX4 ntd4
            have hX9 := sm9 _ _ (sm8 _ _ hX)
            have hkB : upd H9 td (.lst ((made rs ks).map V.int ++ [.int 0])) kp = some (.lst (ks.map V.int)) := (upd_ne nkt).trans (sm9 _ _ (sm8 _ _ (sm7 _ _ hk6)))
            walk_at "s"
            · rename_i e
              cases e
            have hXB : upd H9 td (.lst ((made rs ks).map V.int ++ [.int 0])) r = some (.lst xs) := (upd_ne nrt).trans hX9
            generalize upd H9 td (.lst ((made rs ks).map V.int ++ [.int 0])) = HB at smB hkB hXB
            refine for_rangeQ (lo := 0) (n := ((xs.length : Int)).toNat) Q rfl (fun m σ HC => ∃ (v12 v13 v14 : Option V), σ = [some (.ref a), some (.ref W), v2, v3, some (.ref r), some (.ref l), v6, some (.int (i : Int)), some (.ref p), some (.ref kp), some (.ref fl), some (.ref td), v12, v13, v14] ∧ Same HB HC) ?_ ?_ ?_
            · exact ⟨_, _, _, rfl, Same.refl _⟩
            · intro N3 X3 m σ HC hm hP hN3
              obtain ⟨v12, v13, v14, rfl, smC⟩ := hP
              have hkC := smC _ _ hkB
              simp only [Int.zero_add]
              walk_at "s"
              refine ⟨p, dx, _, rfl, smC _ _ (smB _ _ hp), rfl, ?_⟩
              walk_at "s"
              · refine ⟨kp, _, rfl, .inl ⟨SqL.of hkC, fun O hO => ?_⟩⟩
                have smO : Same HC (upd HC O (.tup (ks.map V.int))) := same_new hO
                walk_at "s"
                refine ⟨p, O, rs, ks, m, rfl, hNet.same (smB.trans (smC.trans smO)), hWF, hl1, by omega, .inr upd_same, by omega, fun hf H10 sm10 => ?_, fun hf l10 H10 ws hway sm10 nl10 hl10 => ?_⟩
                · walk_at "s"
                  refine ⟨r, kp, rs, ks, m, rfl, hR.same (smB.trans ((smC.trans smO).trans sm10)), hWF, hl1, ((smC.trans smO).trans sm10) _ _ hkB, by omega, fun hf2 H11 sm11 => ?_, fun hf2 l11 H11 ws2 hway2 sm11 nl2 hl2 => ?_⟩
                  · walk_at "s"
                    refine ⟨_, _, .none, rfl, dt_none, dt_none, by decide, fun H12 sm12 => ?_⟩
                    walk_at "s"
                    · rename_i e
                      cases e
                    · exact hN3 _ _ ⟨_, _, _, rfl, (((smC.trans smO).trans sm10).trans sm11).trans sm12⟩
                  · rw [hf] at hf2
                    cases hf2
                · walk_at "s"
                  refine ⟨r, kp, rs, ks, m, rfl, hR.same (smB.trans ((smC.trans smO).trans sm10)), hWF, hl1, ((smC.trans smO).trans sm10) _ _ hkB, by omega, fun hf2 H11 sm11 => ?_, fun hf2 l11 H11 ws2 hway2 sm11 nl2 hl2 => ?_⟩
                  · rw [hf] at hf2
                    cases hf2
                  · walk_at "s"
                    have hw := hway.one hway2
                    subst hw
                    refine ⟨_, _, .list (ws.reverse.map PyData.int), rfl, dt_ints (sm11 _ _ hl10), dt_ints hl2, dep_ints _, fun H12 sm12 => ?_⟩
                    walk_at "s"
                    · rename_i e
                      cases e
                    · exact hN3 _ _ ⟨_, _, _, rfl, (((smC.trans smO).trans sm10).trans sm11).trans sm12⟩
              · refine ⟨p, kp, rs, ks, m, rfl, hNet.same (smB.trans smC), hWF, hl1, by omega, .inl hkC, by omega, fun hf H10 sm10 => ?_, fun hf l10 H10 ws hway sm10 nl10 hl10 => ?_⟩
                · walk_at "s"
                  refine ⟨r, kp, rs, ks, m, rfl, hR.same (smB.trans (smC.trans sm10)), hWF, hl1, (smC.trans sm10) _ _ hkB, by omega, fun hf2 H11 sm11 => ?_, fun hf2 l11 H11 ws2 hway2 sm11 nl2 hl2 => ?_⟩
                  · walk_at "s"
                    refine ⟨_, _, .none, rfl, dt_none, dt_none, by decide, fun H12 sm12 => ?_⟩
                    walk_at "s"
                    · rename_i e
                      cases e
                    · exact hN3 _ _ ⟨_, _, _, rfl, ((smC.trans sm10).trans sm11).trans sm12⟩
                  · rw [hf] at hf2
                    cases hf2
                · walk_at "s"
                  refine ⟨r, kp, rs, ks, m, rfl, hR.same (smB.trans (smC.trans sm10)), hWF, hl1, (smC.trans sm10) _ _ hkB, by omega, fun hf2 H11 sm11 => ?_, fun hf2 l11 H11 ws2 hway2 sm11 nl2 hl2 => ?_⟩
                  · rw [hf] at hf2
                    cases hf2
                  · walk_at "s"
                    have hw := hway.one hway2
                    subst hw
                    refine ⟨_, _, .list (ws.reverse.map PyData.int), rfl, dt_ints (sm11 _ _ hl10), dt_ints hl2, dep_ints _, fun H12 sm12 => ?_⟩
                    walk_at "s"
                    · rename_i e
                      cases e
                    · exact hN3 _ _ ⟨_, _, _, rfl, ((smC.trans sm10).trans sm11).trans sm12⟩
            · intro σ HC hP
              obtain ⟨v12, v13, v14, rfl, smC⟩ := hP
              have hkC := smC _ _ hkB
              have hbC := smC _ _ (smB _ _ hbs)
              have hcC := smC _ _ (smB _ _ hc)
              walk_at "s"
              refine ⟨_, _, dp_ints hkC, dp_ints hcC, shaped_ints _, shaped_ints _, ?_⟩
              rw [eqv_ints]
              walk_at "s"
              · rename_i e
                cases e
              · exact hN2 _ _ ⟨_, _, _, _, _, _, _, _, _, _, _, _, rfl, sm4.trans (smB.trans smC)⟩
        · intro σ H4 hP
          obtain ⟨v2, v3, v4, v5, v6, v8, v9, v10, v11, v12, v13, v14, rfl, sm4⟩ := hP
          exact hN _ _ ⟨_, _, _, _, _, _, _, _, _, _, _, _, _, rfl, sm4⟩
      · intro σ H3 hP
        obtain ⟨v2, v3, v4, v5, v6, v7, v8, v9, v10, v11, v12, v13, v14, rfl, sm3⟩ := hP
        walk_at "s"
        exact q _
end
end K17W
set_option Elab.async false
set_option linter.all false
set_option maxRecDepth 100000
set_option maxHeartbeats 4000000
namespace K17W
open PySem PySem.Spec PyProof.Rows L2 TL LW
def top_mk {w : World} {K : PySem.W.Frag} {h : Heap} {mg : Str → Option Value} (X : K.In h) (G : h.Ns mainGlobals mg)
    {C_Net : Addr}
    {f0 : Addr} {od0 an0 : Option Addr} {sl0 : Array (Option Value)} {oc0 kV0 dc0 pm0 cd0 ct0 : Value}
    {f1 : Addr} {od1 an1 : Option Addr} {sl1 : Array (Option Value)} {oc1 kV1 dc1 pm1 cd1 ct1 : Value}
    {f2 : Addr} {od2 an2 : Option Addr} {sl2 : Array (Option Value)} {oc2 kV2 dc2 pm2 cd2 ct2 : Value}
    {f3 : Addr} {od3 an3 : Option Addr} {sl3 : Array (Option Value)} {oc3 kV3 dc3 pm3 cd3 ct3 : Value}
    {f4 : Addr} {od4 an4 : Option Addr} {sl4 : Array (Option Value)} {oc4 kV4 dc4 pm4 cd4 ct4 : Value}
    {f5 : Addr} {od5 an5 : Option Addr} {sl5 : Array (Option Value)} {oc5 kV5 dc5 pm5 cd5 ct5 : Value}
    {f6 : Addr} {od6 an6 : Option Addr} {sl6 : Array (Option Value)} {oc6 kV6 dc6 pm6 cd6 ct6 : Value}
    {f7 : Addr} {od7 an7 : Option Addr} {sl7 : Array (Option Value)} {oc7 kV7 dc7 pm7 cd7 ct7 : Value}
    {f8 : Addr} {od8 an8 : Option Addr} {sl8 : Array (Option Value)} {oc8 kV8 dc8 pm8 cd8 ct8 : Value}
    {f9 : Addr} {od9 an9 : Option Addr} {sl9 : Array (Option Value)} {oc9 kV9 dc9 pm9 cd9 ct9 : Value}
    {f10 : Addr} {od10 an10 : Option Addr} {sl10 : Array (Option Value)} {oc10 kV10 dc10 pm10 cd10 ct10 : Value}
    {f11 : Addr} {od11 an11 : Option Addr} {sl11 : Array (Option Value)} {oc11 kV11 dc11 pm11 cd11 ct11 : Value}
    {f12 : Addr} {od12 an12 : Option Addr} {sl12 : Array (Option Value)} {oc12 kV12 dc12 pm12 cd12 ct12 : Value}
    {f13 : Addr} {od13 an13 : Option Addr} {sl13 : Array (Option Value)} {oc13 kV13 dc13 pm13 cd13 ct13 : Value}
    {f14 : Addr} {od14 an14 : Option Addr} {sl14 : Array (Option Value)} {oc14 kV14 dc14 pm14 cd14 ct14 : Value}
    {f15 : Addr} {od15 an15 : Option Addr} {sl15 : Array (Option Value)} {oc15 kV15 dc15 pm15 cd15 ct15 : Value}
    {f16 : Addr} {od16 an16 : Option Addr} {sl16 : Array (Option Value)} {oc16 kV16 dc16 pm16 cd16 ct16 : Value}
    {f17 : Addr} {od17 an17 : Option Addr} {sl17 : Array (Option Value)} {oc17 kV17 dc17 pm17 cd17 ct17 : Value}
    {f18 : Addr} {od18 an18 : Option Addr} {sl18 : Array (Option Value)} {oc18 kV18 dc18 pm18 cd18 ct18 : Value}
    {f19 : Addr} {od19 an19 : Option Addr} {sl19 : Array (Option Value)} {oc19 kV19 dc19 pm19 cd19 ct19 : Value}
    {D_LIMITS : Addr} {es_LIMITS : Array DictEntry} {dn_LIMITS : Nat}
    {tk_LIMITS_nodes : Tok}
    (aC_Net : PySem.W.nsIn K mainGlobals "Net" = some (some (.ref C_Net)))
    (pg_Net : PySem.W.plainGet K C_Net Str.empty = true) (hd_Net : PySem.W.hasDictIn K C_Net = true) (po_Net : PySem.W.plainOver K C_Net = true) (sa_Net : PySem.W.findIn K (.ref C_Net) "__setattr__" = some (some (.builtin "object.__setattr__"))) (mk_Net : PySem.W.makesIn K C_Net = true) (kc_Net : PySem.W.keepIn K (.ref C_Net) = true)
    (n_Net_own_nodes : PySem.W.findIn K (.ref C_Net) "own_nodes" = some none)
    (a0 : PySem.W.nsIn K mainGlobals "bound" = some (some (.ref f0))) (l0 : K.lookup f0 = some ⟨oc0, od0, .func (PySem.W.fnOf "bound" "bound" (defArgs s_bound) (defBody s_bound) (defScope s_bound) .none kV0 dc0 pm0 an0 cd0 ct0), sl0⟩) (c0 : PySem.W.codeIn K cd0 "bound" = true) (k0 : PySem.W.keepIn K (.ref f0) = true)
    (a1 : PySem.W.nsIn K mainGlobals "made_flags" = some (some (.ref f1))) (l1 : K.lookup f1 = some ⟨oc1, od1, .func (PySem.W.fnOf "made_flags" "made_flags" (defArgs s_made_flags) (defBody s_made_flags) (defScope s_made_flags) .none kV1 dc1 pm1 an1 cd1 ct1), sl1⟩) (c1 : PySem.W.codeIn K cd1 "made_flags" = true) (k1 : PySem.W.keepIn K (.ref f1) = true)
    (a2 : PySem.W.nsIn K mainGlobals "made_nodes" = some (some (.ref f2))) (l2 : K.lookup f2 = some ⟨oc2, od2, .func (PySem.W.fnOf "made_nodes" "made_nodes" (defArgs s_made_nodes) (defBody s_made_nodes) (defScope s_made_nodes) .none kV2 dc2 pm2 an2 cd2 ct2), sl2⟩) (c2 : PySem.W.codeIn K cd2 "made_nodes" = true) (k2 : PySem.W.keepIn K (.ref f2) = true)
    (a3 : PySem.W.nsIn K mainGlobals "way_around" = some (some (.ref f3))) (l3 : K.lookup f3 = some ⟨oc3, od3, .func (PySem.W.fnOf "way_around" "way_around" (defArgs s_way_around) (defBody s_way_around) (defScope s_way_around) .none kV3 dc3 pm3 an3 cd3 ct3), sl3⟩) (c3 : PySem.W.codeIn K cd3 "way_around" = true) (k3 : PySem.W.keepIn K (.ref f3) = true)
    (a4 : PySem.W.findIn K (.ref C_Net) "__init__" = some (some (.ref f4))) (i4 : PySem.W.isFn K (.ref f4) = true) (l4 : K.lookup f4 = some ⟨oc4, od4, .func (PySem.W.fnOf "__init__" "Net.__init__" (defArgs s_Net___init__) (defBody s_Net___init__) (defScope s_Net___init__) .none kV4 dc4 pm4 an4 cd4 ct4), sl4⟩) (c4 : PySem.W.codeIn K cd4 "Net.__init__" = true) (k4 : PySem.W.keepIn K (.ref f4) = true)
    (a5 : PySem.W.findIn K (.ref C_Net) "made" = some (some (.ref f5))) (i5 : PySem.W.isFn K (.ref f5) = true) (l5 : K.lookup f5 = some ⟨oc5, od5, .func (PySem.W.fnOf "made" "Net.made" (defArgs s_Net_made) (defBody s_Net_made) (defScope s_Net_made) .none kV5 dc5 pm5 an5 cd5 ct5), sl5⟩) (c5 : PySem.W.codeIn K cd5 "Net.made" = true) (k5 : PySem.W.keepIn K (.ref f5) = true)
    (a6 : PySem.W.findIn K (.ref C_Net) "around" = some (some (.ref f6))) (i6 : PySem.W.isFn K (.ref f6) = true) (l6 : K.lookup f6 = some ⟨oc6, od6, .func (PySem.W.fnOf "around" "Net.around" (defArgs s_Net_around) (defBody s_Net_around) (defScope s_Net_around) .none kV6 dc6 pm6 an6 cd6 ct6), sl6⟩) (c6 : PySem.W.codeIn K cd6 "Net.around" = true) (k6 : PySem.W.keepIn K (.ref f6) = true)
    (a7 : PySem.W.nsIn K mainGlobals "_law_source" = some (some (.ref f7))) (l7 : K.lookup f7 = some ⟨oc7, od7, .func (PySem.W.fnOf "_law_source" "_law_source" (defArgs s_law_source) (defBody s_law_source) (defScope s_law_source) .none kV7 dc7 pm7 an7 cd7 ct7), sl7⟩) (c7 : PySem.W.codeIn K cd7 "_law_source" = true) (k7 : PySem.W.keepIn K (.ref f7) = true)
    (a8 : PySem.W.nsIn K mainGlobals "_law_pick" = some (some (.ref f8))) (l8 : K.lookup f8 = some ⟨oc8, od8, .func (PySem.W.fnOf "_law_pick" "_law_pick" (defArgs s_law_pick) (defBody s_law_pick) (defScope s_law_pick) .none kV8 dc8 pm8 an8 cd8 ct8), sl8⟩) (c8 : PySem.W.codeIn K cd8 "_law_pick" = true) (k8 : PySem.W.keepIn K (.ref f8) = true)
    (a9 : PySem.W.nsIn K mainGlobals "_law_same" = some (some (.ref f9))) (l9 : K.lookup f9 = some ⟨oc9, od9, .func (PySem.W.fnOf "_law_same" "_law_same" (defArgs s_law_same) (defBody s_law_same) (defScope s_law_same) .none kV9 dc9 pm9 an9 cd9 ct9), sl9⟩) (c9 : PySem.W.codeIn K cd9 "_law_same" = true) (k9 : PySem.W.keepIn K (.ref f9) = true)
    (a10 : PySem.W.nsIn K mainGlobals "_law_c_made" = some (some (.ref f10))) (l10 : K.lookup f10 = some ⟨oc10, od10, .func (PySem.W.fnOf "_law_c_made" "_law_c_made" (defArgs s_law_c_made) (defBody s_law_c_made) (defScope s_law_c_made) .none kV10 dc10 pm10 an10 cd10 ct10), sl10⟩) (c10 : PySem.W.codeIn K cd10 "_law_c_made" = true) (k10 : PySem.W.keepIn K (.ref f10) = true)
    (a11 : PySem.W.nsIn K mainGlobals "_law_c_living" = some (some (.ref f11))) (l11 : K.lookup f11 = some ⟨oc11, od11, .func (PySem.W.fnOf "_law_c_living" "_law_c_living" (defArgs s_law_c_living) (defBody s_law_c_living) (defScope s_law_c_living) .none kV11 dc11 pm11 an11 cd11 ct11), sl11⟩) (c11 : PySem.W.codeIn K cd11 "_law_c_living" = true) (k11 : PySem.W.keepIn K (.ref f11) = true)
    (a12 : PySem.W.nsIn K mainGlobals "_law_c_weight" = some (some (.ref f12))) (l12 : K.lookup f12 = some ⟨oc12, od12, .func (PySem.W.fnOf "_law_c_weight" "_law_c_weight" (defArgs s_law_c_weight) (defBody s_law_c_weight) (defScope s_law_c_weight) .none kV12 dc12 pm12 an12 cd12 ct12), sl12⟩) (c12 : PySem.W.codeIn K cd12 "_law_c_weight" = true) (k12 : PySem.W.keepIn K (.ref f12) = true)
    (a13 : PySem.W.nsIn K mainGlobals "_law_c_next" = some (some (.ref f13))) (l13 : K.lookup f13 = some ⟨oc13, od13, .func (PySem.W.fnOf "_law_c_next" "_law_c_next" (defArgs s_law_c_next) (defBody s_law_c_next) (defScope s_law_c_next) .none kV13 dc13 pm13 an13 cd13 ct13), sl13⟩) (c13 : PySem.W.codeIn K cd13 "_law_c_next" = true) (k13 : PySem.W.keepIn K (.ref f13) = true)
    (a14 : PySem.W.nsIn K mainGlobals "_law_c_flow" = some (some (.ref f14))) (l14 : K.lookup f14 = some ⟨oc14, od14, .func (PySem.W.fnOf "_law_c_flow" "_law_c_flow" (defArgs s_law_c_flow) (defBody s_law_c_flow) (defScope s_law_c_flow) .none kV14 dc14 pm14 an14 cd14 ct14), sl14⟩) (c14 : PySem.W.codeIn K cd14 "_law_c_flow" = true) (k14 : PySem.W.keepIn K (.ref f14) = true)
    (a15 : PySem.W.nsIn K mainGlobals "_law_c_earliest" = some (some (.ref f15))) (l15 : K.lookup f15 = some ⟨oc15, od15, .func (PySem.W.fnOf "_law_c_earliest" "_law_c_earliest" (defArgs s_law_c_earliest) (defBody s_law_c_earliest) (defScope s_law_c_earliest) .none kV15 dc15 pm15 an15 cd15 ct15), sl15⟩) (c15 : PySem.W.codeIn K cd15 "_law_c_earliest" = true) (k15 : PySem.W.keepIn K (.ref f15) = true)
    (a16 : PySem.W.nsIn K mainGlobals "_law_c_net" = some (some (.ref f16))) (l16 : K.lookup f16 = some ⟨oc16, od16, .func (PySem.W.fnOf "_law_c_net" "_law_c_net" (defArgs s_law_c_net) (defBody s_law_c_net) (defScope s_law_c_net) .none kV16 dc16 pm16 an16 cd16 ct16), sl16⟩) (c16 : PySem.W.codeIn K cd16 "_law_c_net" = true) (k16 : PySem.W.keepIn K (.ref f16) = true)
    (a17 : PySem.W.nsIn K mainGlobals "_law_c_goals" = some (some (.ref f17))) (l17 : K.lookup f17 = some ⟨oc17, od17, .func (PySem.W.fnOf "_law_c_goals" "_law_c_goals" (defArgs s_law_c_goals) (defBody s_law_c_goals) (defScope s_law_c_goals) .none kV17 dc17 pm17 an17 cd17 ct17), sl17⟩) (c17 : PySem.W.codeIn K cd17 "_law_c_goals" = true) (k17 : PySem.W.keepIn K (.ref f17) = true)
    (a18 : PySem.W.nsIn K mainGlobals "_law_c_around" = some (some (.ref f18))) (l18 : K.lookup f18 = some ⟨oc18, od18, .func (PySem.W.fnOf "_law_c_around" "_law_c_around" (defArgs s_law_c_around) (defBody s_law_c_around) (defScope s_law_c_around) .none kV18 dc18 pm18 an18 cd18 ct18), sl18⟩) (c18 : PySem.W.codeIn K cd18 "_law_c_around" = true) (k18 : PySem.W.keepIn K (.ref f18) = true)
    (a19 : PySem.W.nsIn K mainGlobals "law" = some (some (.ref f19))) (l19 : K.lookup f19 = some ⟨oc19, od19, .func (PySem.W.fnOf "law" "law" (defArgs s_law) (defBody s_law) (defScope s_law) .none kV19 dc19 pm19 an19 cd19 ct19), sl19⟩) (c19 : PySem.W.codeIn K cd19 "law" = true) (k19 : PySem.W.keepIn K (.ref f19) = true)
    (v20 : PySem.W.nsIn K mainGlobals "LIMITS" = some (some (.ref D_LIMITS))) (l20 : K.lookup D_LIMITS = some ⟨.type "dict", none, .dict es_LIMITS dn_LIMITS, #[]⟩) (kk20 : PySem.W.KeysLit w.params es_LIMITS.toList)
    (dx_LIMITS_nodes : PySem.W.nsIn K D_LIMITS "nodes" = some (some (.int 400 tk_LIMITS_nodes)))
    (z21 : PySem.W.nsIn K mainGlobals "all" = some none)
    (z22 : PySem.W.nsIn K mainGlobals "bool" = some none)
    (z23 : PySem.W.nsIn K mainGlobals "dict" = some none)
    (z24 : PySem.W.nsIn K mainGlobals "int" = some none)
    (z25 : PySem.W.nsIn K mainGlobals "isinstance" = some none)
    (z26 : PySem.W.nsIn K mainGlobals "len" = some none)
    (z27 : PySem.W.nsIn K mainGlobals "list" = some none)
    (z28 : PySem.W.nsIn K mainGlobals "min" = some none)
    (z29 : PySem.W.nsIn K mainGlobals "range" = some none)
    (z30 : PySem.W.nsIn K mainGlobals "reversed" = some none)
    (z31 : PySem.W.nsIn K mainGlobals "str" = some none)
    (z32 : PySem.W.nsIn K mainGlobals "sum" = some none)
    (z33 : PySem.W.nsIn K mainGlobals "tuple" = some none)
    (z34 : PySem.W.nsIn K mainGlobals "zip" = some none) : Top w K mg where
  C_Net := C_Net
  m_Net := PySem.W.mg_of X G aC_Net
  cl_Net := ⟨pg_Net, hd_Net, po_Net, sa_Net⟩
  n_Net_own_nodes := n_Net_own_nodes
  a_bound := f0
  d_bound := _
  F_bound := fun_mk l0 c0 k0
  b_bound := (fun_mk (st := s_bound) l0 c0 k0).binds fun _ _ _ _ _ _ us hl => match us, hl with | [_, _], _ => rfl
  m_bound := PySem.W.mg_of X G a0
  a_made_flags := f1
  d_made_flags := _
  F_made_flags := fun_mk l1 c1 k1
  b_made_flags := (fun_mk (st := s_made_flags) l1 c1 k1).binds fun _ _ _ _ _ _ us hl => match us, hl with | [_, _], _ => rfl
  m_made_flags := PySem.W.mg_of X G a1
  a_made_nodes := f2
  d_made_nodes := _
  F_made_nodes := fun_mk l2 c2 k2
  b_made_nodes := (fun_mk (st := s_made_nodes) l2 c2 k2).binds fun _ _ _ _ _ _ us hl => match us, hl with | [_, _], _ => rfl
  m_made_nodes := PySem.W.mg_of X G a2
  a_way_around := f3
  d_way_around := _
  F_way_around := fun_mk l3 c3 k3
  b_way_around := (fun_mk (st := s_way_around) l3 c3 k3).binds fun _ _ _ _ _ _ us hl => match us, hl with | [_, _, _], _ => rfl
  m_way_around := PySem.W.mg_of X G a3
  a_Net___init__ := f4
  d_Net___init__ := _
  F_Net___init__ := fun_mk l4 c4 k4
  b_Net___init__ := (fun_mk (st := s_Net___init__) l4 c4 k4).binds fun _ _ _ _ _ _ us hl => match us, hl with | [_, _], _ => rfl
  M_Net___init__ := ⟨mk_Net, a4, i4, kc_Net⟩
  a_Net_made := f5
  d_Net_made := _
  F_Net_made := fun_mk l5 c5 k5
  b_Net_made := (fun_mk (st := s_Net_made) l5 c5 k5).binds fun _ _ _ _ _ _ us hl => match us, hl with | [_, _], _ => rfl
  M_Net_made := ⟨a5, i5, k5⟩
  a_Net_around := f6
  d_Net_around := _
  F_Net_around := fun_mk l6 c6 k6
  b_Net_around := (fun_mk (st := s_Net_around) l6 c6 k6).binds fun _ _ _ _ _ _ us hl => match us, hl with | [_, _, _], _ => rfl
  M_Net_around := ⟨a6, i6, k6⟩
  a_law_source := f7
  d_law_source := _
  F_law_source := fun_mk l7 c7 k7
  b_law_source := (fun_mk (st := s_law_source) l7 c7 k7).binds fun _ _ _ _ _ _ us hl => match us, hl with | [_, _], _ => rfl
  m_law_source := PySem.W.mg_of X G a7
  a_law_pick := f8
  d_law_pick := _
  F_law_pick := fun_mk l8 c8 k8
  b_law_pick := (fun_mk (st := s_law_pick) l8 c8 k8).binds fun _ _ _ _ _ _ us hl => match us, hl with | [_, _], _ => rfl
  m_law_pick := PySem.W.mg_of X G a8
  a_law_same := f9
  d_law_same := _
  F_law_same := fun_mk l9 c9 k9
  b_law_same := (fun_mk (st := s_law_same) l9 c9 k9).binds fun _ _ _ _ _ _ us hl => match us, hl with | [_, _], _ => rfl
  m_law_same := PySem.W.mg_of X G a9
  a_law_c_made := f10
  d_law_c_made := _
  F_law_c_made := fun_mk l10 c10 k10
  b_law_c_made := (fun_mk (st := s_law_c_made) l10 c10 k10).binds fun _ _ _ _ _ _ us hl => match us, hl with | [_, _], _ => rfl
  m_law_c_made := PySem.W.mg_of X G a10
  a_law_c_living := f11
  d_law_c_living := _
  F_law_c_living := fun_mk l11 c11 k11
  b_law_c_living := (fun_mk (st := s_law_c_living) l11 c11 k11).binds fun _ _ _ _ _ _ us hl => match us, hl with | [_, _], _ => rfl
  m_law_c_living := PySem.W.mg_of X G a11
  a_law_c_weight := f12
  d_law_c_weight := _
  F_law_c_weight := fun_mk l12 c12 k12
  b_law_c_weight := (fun_mk (st := s_law_c_weight) l12 c12 k12).binds fun _ _ _ _ _ _ us hl => match us, hl with | [_, _], _ => rfl
  m_law_c_weight := PySem.W.mg_of X G a12
  a_law_c_next := f13
  d_law_c_next := _
  F_law_c_next := fun_mk l13 c13 k13
  b_law_c_next := (fun_mk (st := s_law_c_next) l13 c13 k13).binds fun _ _ _ _ _ _ us hl => match us, hl with | [_, _, _, _, _, _], _ => rfl
  m_law_c_next := PySem.W.mg_of X G a13
  a_law_c_flow := f14
  d_law_c_flow := _
  F_law_c_flow := fun_mk l14 c14 k14
  b_law_c_flow := (fun_mk (st := s_law_c_flow) l14 c14 k14).binds fun _ _ _ _ _ _ us hl => match us, hl with | [_, _], _ => rfl
  m_law_c_flow := PySem.W.mg_of X G a14
  a_law_c_earliest := f15
  d_law_c_earliest := _
  F_law_c_earliest := fun_mk l15 c15 k15
  b_law_c_earliest := (fun_mk (st := s_law_c_earliest) l15 c15 k15).binds fun _ _ _ _ _ _ us hl => match us, hl with | [_, _], _ => rfl
  m_law_c_earliest := PySem.W.mg_of X G a15
  a_law_c_net := f16
  d_law_c_net := _
  F_law_c_net := fun_mk l16 c16 k16
  b_law_c_net := (fun_mk (st := s_law_c_net) l16 c16 k16).binds fun _ _ _ _ _ _ us hl => match us, hl with | [_, _], _ => rfl
  m_law_c_net := PySem.W.mg_of X G a16
  a_law_c_goals := f17
  d_law_c_goals := _
  F_law_c_goals := fun_mk l17 c17 k17
  b_law_c_goals := (fun_mk (st := s_law_c_goals) l17 c17 k17).binds fun _ _ _ _ _ _ us hl => match us, hl with | [_, _, _], _ => rfl
  m_law_c_goals := PySem.W.mg_of X G a17
  a_law_c_around := f18
  d_law_c_around := _
  F_law_c_around := fun_mk l18 c18 k18
  b_law_c_around := (fun_mk (st := s_law_c_around) l18 c18 k18).binds fun _ _ _ _ _ _ us hl => match us, hl with | [_, _, _], _ => rfl
  m_law_c_around := PySem.W.mg_of X G a18
  a_law := f19
  d_law := _
  F_law := fun_mk l19 c19 k19
  b_law := (fun_mk (st := s_law) l19 c19 k19).binds fun _ _ _ _ _ _ us hl => match us, hl with | [_], _ => rfl
  m_law := PySem.W.mg_of X G a19
  bt_law := fun s v => .of_eq rfl
  a_LIMITS := D_LIMITS
  m_LIMITS := PySem.W.mg_of X G v20
  k_LIMITS_nodes := ⟨_, _, _, l20, kk20, dx_LIMITS_nodes, ⟨_, rfl⟩⟩
  m_all := PySem.W.mg_none_of X G z21
  m_bool := PySem.W.mg_none_of X G z22
  m_dict := PySem.W.mg_none_of X G z23
  m_int := PySem.W.mg_none_of X G z24
  m_isinstance := PySem.W.mg_none_of X G z25
  m_len := PySem.W.mg_none_of X G z26
  m_list := PySem.W.mg_none_of X G z27
  m_min := PySem.W.mg_none_of X G z28
  m_range := PySem.W.mg_none_of X G z29
  m_reversed := PySem.W.mg_none_of X G z30
  m_str := PySem.W.mg_none_of X G z31
  m_sum := PySem.W.mg_none_of X G z32
  m_tuple := PySem.W.mg_none_of X G z33
  m_zip := PySem.W.mg_none_of X G z34
theorem all_law {l : PySem.W.OpenLaw} {w : World} {K : PySem.W.Frag} {mg : Str → Option Value} {fa : Addr} (hfa : mg "law" = some (.ref fa)) (T : Top w K mg) :
    ∃ fd : FuncData, (∀ (s : Shared) (v : Value), BindsTo s fd ⟨[v], []⟩ [("script", v)]) ∧ ∀ base : Heap, K.In base → base.Ns mainGlobals mg → FnOk l.prog w K mg base CX0 6 fa fd ["script"] (spLaw K) := by
  have e := hfa.symm.trans T.m_law
  have e2 : fa = T.a_law := by
    have := Option.some.inj e
    injection this
  subst e2
  exact ⟨T.d_law, T.bt_law, fun base _ _ => ok_law T⟩
end K17W
open PySem PySem.W PyProof.Rows
set_option maxHeartbeats 0 in
theorem PySem.Challenge.cw_tellsasleep_k17_made_and_ways_around_holds : PySem.Challenge.rw_tellsasleep_k17_made_and_ways_around.Holds := by
  w_on; o_law; k_head; (case hw => w_witness2)
  k_fill
  refine L2.walk_of (l := PySem.Challenge.rw_tellsasleep_k17_made_and_ways_around) (n := 63) (k := 6) (x := "script") (CX := fun _ => L2.CX0) (sp := fun w => K17W.spLaw _) rfl (by decide) rfl ⟨rfl, by decide, by decide⟩ (fun w h Y => PySem.W.kIn_of Y) ?F (fun _ _ a ns hl _ hS => ⟨a, ns, rfl, hS, hl, fun _ => rfl⟩) (fun _ _ _ _ _ h => h)
  case F =>
    intro w mg fa h KX G hmg
    refine' K17W.all_law hmg (K17W.top_mk KX G ?aC_Net ?pg_Net ?hd_Net ?po_Net ?sa_Net ?mk_Net ?kc_Net ?n_Net_own_nodes ?a0 ?l0 ?c0 ?k0 ?a1 ?l1 ?c1 ?k1 ?a2 ?l2 ?c2 ?k2 ?a3 ?l3 ?c3 ?k3 ?a4 ?i4 ?l4 ?c4 ?k4 ?a5 ?i5 ?l5 ?c5 ?k5 ?a6 ?i6 ?l6 ?c6 ?k6 ?a7 ?l7 ?c7 ?k7 ?a8 ?l8 ?c8 ?k8 ?a9 ?l9 ?c9 ?k9 ?a10 ?l10 ?c10 ?k10 ?a11 ?l11 ?c11 ?k11 ?a12 ?l12 ?c12 ?k12 ?a13 ?l13 ?c13 ?k13 ?a14 ?l14 ?c14 ?k14 ?a15 ?l15 ?c15 ?k15 ?a16 ?l16 ?c16 ?k16 ?a17 ?l17 ?c17 ?k17 ?a18 ?l18 ?c18 ?k18 ?a19 ?l19 ?c19 ?k19 ?v20 ?l20 ?kk20 ?dx_LIMITS_nodes ?z21 ?z22 ?z23 ?z24 ?z25 ?z26 ?z27 ?z28 ?z29 ?z30 ?z31 ?z32 ?z33 ?z34)
    (case aC_Net => k_is); (case pg_Net => k_is); (case hd_Net => k_is); (case po_Net => k_is); (case sa_Net => k_is); (case mk_Net => k_is); (case kc_Net => k_is); (case n_Net_own_nodes => k_is); (case a0 => k_is); (case l0 => k_is); (case c0 => k_is); (case k0 => k_is); (case a1 => k_is); (case l1 => k_is); (case c1 => k_is); (case k1 => k_is); (case a2 => k_is); (case l2 => k_is); (case c2 => k_is); (case k2 => k_is); (case a3 => k_is); (case l3 => k_is); (case c3 => k_is); (case k3 => k_is); (case a4 => k_is); (case i4 => k_is); (case l4 => k_is); (case c4 => k_is); (case k4 => k_is); (case a5 => k_is); (case i5 => k_is); (case l5 => k_is); (case c5 => k_is); (case k5 => k_is); (case a6 => k_is); (case i6 => k_is); (case l6 => k_is); (case c6 => k_is); (case k6 => k_is); (case a7 => k_is); (case l7 => k_is); (case c7 => k_is); (case k7 => k_is); (case a8 => k_is); (case l8 => k_is); (case c8 => k_is); (case k8 => k_is); (case a9 => k_is); (case l9 => k_is); (case c9 => k_is); (case k9 => k_is); (case a10 => k_is); (case l10 => k_is); (case c10 => k_is); (case k10 => k_is); (case a11 => k_is); (case l11 => k_is); (case c11 => k_is); (case k11 => k_is); (case a12 => k_is); (case l12 => k_is); (case c12 => k_is); (case k12 => k_is); (case a13 => k_is); (case l13 => k_is); (case c13 => k_is); (case k13 => k_is); (case a14 => k_is); (case l14 => k_is); (case c14 => k_is); (case k14 => k_is); (case a15 => k_is); (case l15 => k_is); (case c15 => k_is); (case k15 => k_is); (case a16 => k_is); (case l16 => k_is); (case c16 => k_is); (case k16 => k_is); (case a17 => k_is); (case l17 => k_is); (case c17 => k_is); (case k17 => k_is); (case a18 => k_is); (case l18 => k_is); (case c18 => k_is); (case k18 => k_is); (case a19 => k_is); (case l19 => k_is); (case c19 => k_is); (case k19 => k_is); (case v20 => k_is); (case l20 => k_is); (case kk20 => k_keys); (case dx_LIMITS_nodes => k_is); (case z21 => k_is); (case z22 => k_is); (case z23 => k_is); (case z24 => k_is); (case z25 => k_is); (case z26 => k_is); (case z27 => k_is); (case z28 => k_is); (case z29 => k_is); (case z30 => k_is); (case z31 => k_is); (case z32 => k_is); (case z33 => k_is); (case z34 => k_is)
