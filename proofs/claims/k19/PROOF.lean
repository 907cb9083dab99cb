import PyProof.Rows.All
import Wide.All
import OpenK.AllK
import Wide.FinOn
import HandS.ForMost
import HandS.IsInst
import HandS.Zip
import HandS.Wide
import HandS.Flow
import HandS.Conv
import HandS.SortInts
import HandS.Steps
import HandS.Evl
import HandS.Rev
import HandS.More
import HandS.DictComp
import HandS.DictTup
import PyProof.ListRange
import PySem.Challenge.RW_tellsasleep_k19_numbers_add_up
import HandS.RevRange
import HandS.SetFor
import HandS.Strs
set_option Elab.async false
set_option linter.all false
set_option maxRecDepth 100000
/-! LWBase: small words over the hand layer for all laws: heaps, data, the steps of a reading. -/
namespace LW
open PySem PySem.Spec PyProof.Rows L2 TL

/-! ### heaps -/
theorem same_new {H : Hp} {p : Addr} {o : HO} (h : H p = none) : Same H (upd H p o) := fun b x e => by
  rw [upd_ne (ne_of_none e h)]
  exact e
theorem hp_new {H : Hp} {a p : Addr} {o x : HO} (h : H a = some o) (n : H p = none) : upd H p x a = some o := (upd_ne (ne_of_none h n)).trans h
theorem same_t {H : Hp} {K : PySem.W.Frag} {H' : Hp} {a : Addr} {xs : List V} (e : Same H H') (h : SqT K H a xs) : SqT K H' a xs := by
  rcases h with (h | ⟨o, h⟩) | h
  · exact .inl (.inl (e _ _ h))
  · exact .inl (.inr ⟨o, e _ _ h⟩)
  · exact .inr h
/-- all but what stands at s is as it was -/
def But (s : Addr) (H H' : Hp) : Prop := ∀ b o, b ≠ s → H b = some o → H' b = some o
theorem But.refl (s : Addr) (H : Hp) : But s H H := fun _ _ _ h => h
theorem But.trans {s : Addr} {H H1 H2 : Hp} (a : But s H H1) (b : But s H1 H2) : But s H H2 := fun c o n h => b c o n (a c o n h)
theorem But.of {s : Addr} {H H' : Hp} (h : Same H H') : But s H H' := fun b o _ e => h b o e
theorem But.upd {s : Addr} {H : Hp} {o : HO} : But s H (upd H s o) := fun b x n e => by
  rw [upd_ne n]
  exact e
theorem But.free {s : Addr} {H H' : Hp} (e : But s H H') {l : Addr} (hs : l ≠ s) (h : H' l = none) : H l = none := by
  cases q : H l with
  | none => rfl
  | some o =>
    rw [e l o hs q] at h
    cases h
/-- a new object changed: all that stood before is as it was -/
theorem same_mut {H H' : Hp} {p : Addr} {o : HO} (e : Same H H') (h : H p = none) : Same H (upd H' p o) := fun a u ha => by
  rw [upd_ne (ne_of_none ha h)]
  exact e a u ha

/-- the heap without what stands at s -/
def wo (s : Addr) (H : Hp) : Hp := fun b => if b = s then none else H b
theorem wo_self {s : Addr} {H : Hp} : wo s H s = none := by
  unfold wo
  rw [if_pos rfl]
theorem wo_ne {s b : Addr} {H : Hp} (h : b ≠ s) : wo s H b = H b := by
  unfold wo
  rw [if_neg h]
theorem wo_same {s : Addr} {H : Hp} : Same (wo s H) H := fun b o e => by
  unfold wo at e
  split at e
  · cases e
  · exact e
theorem But.hid {s : Addr} {H H' : Hp} (h : But s H H') : Same (wo s H) (wo s H') := fun b o e => by
  unfold LW.wo at e ⊢
  split at e
  · cases e
  · rename_i n
    rw [if_neg n]
    exact h b o n e
theorem But.hid1 {s : Addr} {H H' : Hp} (h : But s H H') : Same (wo s H) H' := fun b o e => wo_same b o (h.hid b o e)
theorem But.trans' {s : Addr} {H H1 H2 : Hp} (a : But s H H1) (b : Same H1 H2) : But s H H2 := a.trans (.of b)
theorem Same.but {s : Addr} {H H1 H2 : Hp} (a : Same H H1) (b : But s H1 H2) : But s H H2 := (But.of a).trans b
/-- a new thing of ours is at s: all but s kept is all kept -/
theorem But.same {s : Addr} {H H' : Hp} (h : But s H H') (n : H s = none) : Same H H' := fun b o e => h b o (fun z => by rw [z, n] at e; cases e) e

/-! ### data that stands in tracked lists and tuples -/
mutual
def Dt (H : Hp) : V → PyData → Prop
  | v, .none => v = .non
  | v, .bool b => v = .bl b
  | v, .int i => v = .int i
  | v, .str x => v = .str x
  | v, .list ds => ∃ a xs, v = .ref a ∧ H a = some (.lst xs) ∧ DtAll H xs ds
  | v, .tuple ds => ∃ a xs, v = .ref a ∧ H a = some (.tup xs) ∧ DtAll H xs ds
  | _, .dict _ => False
def DtAll (H : Hp) : List V → List PyData → Prop
  | xs, [] => xs = []
  | xs, d :: ds => ∃ v vs, xs = v :: vs ∧ Dt H v d ∧ DtAll H vs ds
end
mutual
theorem Dt.same {H H' : Hp} (e : Same H H') : ∀ (d : PyData) (v : V), Dt H v d → Dt H' v d
  | .none, _, h => by
    unfold Dt at h ⊢
    exact h
  | .bool _, _, h => by
    unfold Dt at h ⊢
    exact h
  | .int _, _, h => by
    unfold Dt at h ⊢
    exact h
  | .str _, _, h => by
    unfold Dt at h ⊢
    exact h
  | .list ds, _, h => by
    unfold Dt at h ⊢
    obtain ⟨a, xs, e1, e2, e3⟩ := h
    exact ⟨a, xs, e1, e _ _ e2, DtAll.same e ds xs e3⟩
  | .tuple ds, _, h => by
    unfold Dt at h ⊢
    obtain ⟨a, xs, e1, e2, e3⟩ := h
    exact ⟨a, xs, e1, e _ _ e2, DtAll.same e ds xs e3⟩
  | .dict _, _, h => by
    unfold Dt at h
    exact h.elim
theorem DtAll.same {H H' : Hp} (e : Same H H') : ∀ (ds : List PyData) (xs : List V), DtAll H xs ds → DtAll H' xs ds
  | [], _, h => by
    unfold DtAll at h ⊢
    exact h
  | d :: ds, _, h => by
    unfold DtAll at h ⊢
    obtain ⟨v, vs, e1, e2, e3⟩ := h
    exact ⟨v, vs, e1, Dt.same e d v e2, DtAll.same e ds vs e3⟩
end
/-! ### data of tuples alone: nothing changes it -/
/-- all tuples stand as they stood -/
def Ts (H H' : Hp) : Prop := ∀ a xs, H a = some (.tup xs) → H' a = some (.tup xs)
theorem Ts.refl (H : Hp) : Ts H H := fun _ _ h => h
theorem Ts.trans {H H1 H2 : Hp} (a : Ts H H1) (b : Ts H1 H2) : Ts H H2 := fun c o h => b c o (a c o h)
theorem Ts.of {H H' : Hp} (h : Same H H') : Ts H H' := fun a _ e => h a _ e
theorem Ts.but {s : Addr} {H H' : Hp} {xs : List V} (h : But s H H') (hs : H s = some (.lst xs)) : Ts H H' := fun a ys e => h a _ (fun z => by rw [z, hs] at e; cases e) e
theorem Ts.upd {s : Addr} {H : Hp} {xs : List V} {o : HO} (hs : H s = some (.lst xs)) : Ts H (upd H s o) := Ts.but But.upd hs
theorem Ts.hid {s : Addr} {H H' : Hp} {xs : List V} (h : Ts H H') (hs : H s = some (.lst xs)) : Ts H (wo s H') := fun a ys e => by
  rw [wo_ne (fun z => by rw [z, hs] at e; cases e)]
  exact h a ys e
mutual
def fz : PyData → Bool
  | .list _ => false
  | .dict _ => false
  | .tuple ds => fzAll ds
  | _ => true
def fzAll : List PyData → Bool
  | [] => true
  | d :: ds => fz d && fzAll ds
end
mutual
theorem Dt.ts {H H' : Hp} (e : Ts H H') : ∀ (d : PyData) (v : V), fz d = true → Dt H v d → Dt H' v d
  | .none, _, _, h => by
    unfold Dt at h ⊢
    exact h
  | .bool _, _, _, h => by
    unfold Dt at h ⊢
    exact h
  | .int _, _, _, h => by
    unfold Dt at h ⊢
    exact h
  | .str _, _, _, h => by
    unfold Dt at h ⊢
    exact h
  | .list ds, _, f, _ => by
    unfold fz at f
    cases f
  | .tuple ds, _, f, h => by
    unfold fz at f
    unfold Dt at h ⊢
    obtain ⟨a, xs, e1, e2, e3⟩ := h
    exact ⟨a, xs, e1, e _ _ e2, DtAll.ts e ds xs f e3⟩
  | .dict _, _, f, h => by
    unfold fz at f
    cases f
theorem DtAll.ts {H H' : Hp} (e : Ts H H') : ∀ (ds : List PyData) (xs : List V), fzAll ds = true → DtAll H xs ds → DtAll H' xs ds
  | [], _, _, h => by
    unfold DtAll at h ⊢
    exact h
  | d :: ds, _, f, h => by
    unfold fzAll at f
    rw [Bool.and_eq_true] at f
    unfold DtAll at h ⊢
    obtain ⟨v, vs, e1, e2, e3⟩ := h
    exact ⟨v, vs, e1, Dt.ts e d v f.1 e2, DtAll.ts e ds vs f.2 e3⟩
end
theorem fzAll_iff : ∀ {ds : List PyData}, fzAll ds = true ↔ ∀ d ∈ ds, fz d = true
  | [] => by simp [fzAll]
  | d :: ds => by simp [fzAll, fzAll_iff (ds := ds)]
theorem fzAll_map {α : Type} {f : α → PyData} (h : ∀ a, fz (f a) = true) (l : List α) : fzAll (l.map f) = true := fzAll_iff.mpr fun d hd => by
  obtain ⟨a, _, rfl⟩ := List.mem_map.mp hd
  exact h a
theorem dt_int {H : Hp} (i : Int) : Dt H (.int i) (.int i) := by unfold Dt; rfl
theorem dt_str {H : Hp} (x : Str) : Dt H (.str x) (.str x) := by unfold Dt; rfl
theorem dt_bool {H : Hp} (b : Bool) : Dt H (.bl b) (.bool b) := by unfold Dt; rfl
theorem dt_none {H : Hp} : Dt H .non .none := by unfold Dt; rfl
theorem dt_list {H : Hp} {a : Addr} {xs : List V} {ds : List PyData} (h : H a = some (.lst xs)) (k : DtAll H xs ds) : Dt H (.ref a) (.list ds) := by
  unfold Dt
  exact ⟨a, xs, rfl, h, k⟩
theorem dt_tup {H : Hp} {a : Addr} {xs : List V} {ds : List PyData} (h : H a = some (.tup xs)) (k : DtAll H xs ds) : Dt H (.ref a) (.tuple ds) := by
  unfold Dt
  exact ⟨a, xs, rfl, h, k⟩
theorem da_nil {H : Hp} : DtAll H [] [] := by unfold DtAll; rfl
theorem da_cons {H : Hp} {v : V} {vs : List V} {d : PyData} {ds : List PyData} (h : Dt H v d) (k : DtAll H vs ds) : DtAll H (v :: vs) (d :: ds) := by
  unfold DtAll
  exact ⟨v, vs, rfl, h, k⟩
theorem da_app {H : Hp} : ∀ {ds es : List PyData} {xs ys : List V}, DtAll H xs ds → DtAll H ys es → DtAll H (xs ++ ys) (ds ++ es)
  | [], es, xs, ys, h, k => by
    unfold DtAll at h
    subst h
    exact k
  | d :: ds, es, xs, ys, h, k => by
    unfold DtAll at h
    obtain ⟨v, vs, rfl, h1, h2⟩ := h
    exact da_cons h1 (da_app h2 k)
theorem da_len {H : Hp} : ∀ {ds : List PyData} {xs : List V}, DtAll H xs ds → xs.length = ds.length
  | [], xs, h => by
    unfold DtAll at h
    subst h
    rfl
  | d :: ds, xs, h => by
    unfold DtAll at h
    obtain ⟨v, vs, rfl, h1, h2⟩ := h
    rw [List.length_cons, List.length_cons, da_len h2]
theorem da_get {H : Hp} : ∀ {ds : List PyData} {xs : List V} {i : Nat} {d : PyData}, DtAll H xs ds → ds[i]? = some d → ∃ v, xs[i]? = some v ∧ Dt H v d
  | [], _, _, _, _, e => by simp at e
  | d :: ds, xs, 0, d', h, e => by
    unfold DtAll at h
    obtain ⟨v, vs, rfl, h1, h2⟩ := h
    simp at e
    subst e
    exact ⟨v, rfl, h1⟩
  | d :: ds, xs, i + 1, d', h, e => by
    unfold DtAll at h
    obtain ⟨v, vs, rfl, h1, h2⟩ := h
    obtain ⟨u, e1, e2⟩ := da_get (i := i) h2 (by simpa using e)
    exact ⟨u, by simpa using e1, e2⟩
theorem da_dropLast {H : Hp} : ∀ {ds : List PyData} {xs : List V}, DtAll H xs ds → DtAll H xs.dropLast ds.dropLast
  | [], xs, h => by
    unfold DtAll at h
    subst h
    exact da_nil
  | [d], xs, h => by
    unfold DtAll at h
    obtain ⟨v, vs, rfl, h1, h2⟩ := h
    unfold DtAll at h2
    subst h2
    exact da_nil
  | d :: d' :: ds, xs, h => by
    unfold DtAll at h
    obtain ⟨v, vs, rfl, h1, h2⟩ := h
    have h3 := da_dropLast h2
    have l := da_len h2
    cases vs with
    | nil => simp at l
    | cons u us => exact da_cons h1 h3
theorem da_snoc {H : Hp} : ∀ {ds : List PyData} {d : PyData} {xs : List V}, DtAll H xs (ds ++ [d]) → ∃ ys v, xs = ys ++ [v] ∧ DtAll H ys ds ∧ Dt H v d
  | [], d, xs, h => by
    rw [List.nil_append] at h
    unfold DtAll at h
    obtain ⟨v, vs, rfl, h1, h2⟩ := h
    unfold DtAll at h2
    subst h2
    exact ⟨[], v, rfl, da_nil, h1⟩
  | e :: ds, d, xs, h => by
    rw [List.cons_append] at h
    unfold DtAll at h
    obtain ⟨v, vs, rfl, h1, h2⟩ := h
    obtain ⟨ys, u, rfl, h3, h4⟩ := da_snoc h2
    exact ⟨v :: ys, u, rfl, da_cons h1 h3, h4⟩
theorem da_ints {H : Hp} : ∀ (ns : List Int), DtAll H (ns.map V.int) (ns.map PyData.int)
  | [] => da_nil
  | n :: ns => da_cons (dt_int n) (da_ints ns)

mutual
/-- how deep data go -/
def dep : PyData → Nat
  | .list ds => depAll ds + 1
  | .tuple ds => depAll ds + 1
  | _ => 0
def depAll : List PyData → Nat
  | [] => 0
  | d :: ds => max (dep d) (depAll ds)
end
theorem dep_get : ∀ {ds : List PyData} {i : Nat} {d : PyData}, ds[i]? = some d → dep d ≤ depAll ds
  | [], _, _, e => by simp at e
  | d :: ds, 0, d', e => by
    simp at e
    subst e
    unfold depAll
    exact Nat.le_max_left _ _
  | d :: ds, i + 1, d', e => by
    have h := dep_get (ds := ds) (i := i) (d := d') (by simpa using e)
    unfold depAll
    exact Nat.le_trans h (Nat.le_max_right _ _)

theorem sz_small {n : Nat} (h : n ≤ 16000000) : n ≤ sizeLine := Nat.le_trans h (by decide)
theorem sz_less {n : Nat} (h : n ≤ 16000000) : n < sizeLine := Nat.lt_of_le_of_lt h (by decide)

/-! ### tests -/
theorem iteD {p A B : Prop} [Decidable p] (h1 : p → A) (h2 : ¬ p → B) : if decide p = true then A else B := by
  by_cases h : p
  · rw [decide_eq_true h]
    exact iteT (h1 h)
  · rw [decide_eq_false h]
    exact iteF (h2 h)
theorem iteDn {p A B : Prop} [Decidable p] (h1 : ¬ p → A) (h2 : p → B) : if (!decide p) = true then A else B := by
  by_cases h : p
  · rw [decide_eq_true h]
    exact iteF (h2 h)
  · rw [decide_eq_false h]
    exact iteT (h1 h)
theorem iteI {i j : Int} {A B : Prop} (h1 : i = j → A) (h2 : i ≠ j → B) : if decide (V.int i = V.int j) = true then A else B :=
  iteD (fun e => h1 (V.int.inj e)) fun e => h2 fun z => e (congrArg V.int z)
theorem iteIn {i j : Int} {A B : Prop} (h1 : i ≠ j → A) (h2 : i = j → B) : if (!decide (V.int i = V.int j)) = true then A else B :=
  iteDn (fun e => h1 fun z => e (congrArg V.int z)) fun e => h2 (V.int.inj e)
theorem iteS {i j : Str} {A B : Prop} (h1 : i = j → A) (h2 : i ≠ j → B) : if decide (V.str i = V.str j) = true then A else B :=
  iteD (fun e => h1 (V.str.inj e)) fun e => h2 fun z => e (congrArg V.str z)
theorem iteSn {i j : Str} {A B : Prop} (h1 : i ≠ j → A) (h2 : i = j → B) : if (!decide (V.str i = V.str j)) = true then A else B :=
  iteDn (fun e => h1 fun z => e (congrArg V.str z)) fun e => h2 (V.str.inj e)
theorem dec_eqS {i j : Str} : decide (V.str i = V.str j) = decide (i = j) := by
  by_cases e : i = j
  · subst e; simp
  · rw [decide_eq_false e]; exact decide_eq_false fun z => e (V.str.inj z)
theorem dec_eqI {i j : Int} : decide (V.int i = V.int j) = decide (i = j) := by
  by_cases e : i = j
  · subst e; simp
  · rw [decide_eq_false e]; exact decide_eq_false fun z => e (V.int.inj z)
/-- a sign -/
abbrev sg (c : Nat) : Str := ⟨#[c]⟩
theorem sg_inj {c d : Nat} (h : sg c = sg d) : c = d := by
  have h2 : tl (sg c) = tl (sg d) := congrArg tl h
  have h3 : [c] = [d] := h2
  simpa using h3
theorem sg_eq {c d : Nat} {s : Str} (hs : s = sg d) : sg c = s ↔ c = d := by
  subst hs
  exact ⟨sg_inj, fun e => by rw [e]⟩
abbrev str (l : List Nat) : Str := ⟨l.toArray⟩
theorem str_tl (x : Str) : str (tl x) = x := mk_tl x
theorem tl_str (l : List Nat) : tl (str l) = l := rfl
theorem str_len (l : List Nat) : (str l).length = l.length := by rw [len_tl, tl_str]
theorem str_app (l m : List Nat) : str l ++ str m = str (l ++ m) := ext_tl (by rw [tl_append])
theorem str_inj {l m : List Nat} (h : str l = str m) : l = m := by
  have h2 : tl (str l) = tl (str m) := congrArg tl h
  exact h2
theorem map_get {α : Type} {f : α → V} {ms : List α} {i : Nat} {x : V} (h : (ms.map f)[i]? = some x) : ∃ v, x = f v ∧ ms[i]? = some v := by
  rw [List.getElem?_map] at h
  cases e : ms[i]? with
  | none => rw [e] at h; cases h
  | some v =>
    rw [e] at h
    exact ⟨v, (Option.some.inj h).symm, rfl⟩
theorem atI_map {α : Type} {f : α → V} {ms : List α} {i : Int} (h0 : 0 ≤ i) (h : i < ms.length) : ∃ v, ms[i.toNat]? = some v ∧ atI (ms.map f) i = some (f v) := by
  obtain ⟨n, rfl⟩ : ∃ n : Nat, i = (n : Int) := ⟨i.toNat, by omega⟩
  have hn : n < ms.length := by omega
  refine ⟨ms[n], by simp [hn], atI_nat ?_⟩
  rw [List.getElem?_map, List.getElem?_eq_getElem hn]
  rfl
theorem cut_take {xs : List V} (k : Nat) : cutV xs none (some (k : Int)) = xs.take k := by
  unfold cutV
  rw [HT.sIx_none, HT.sIx_nat, List.drop_zero, Nat.sub_zero]
  by_cases h : k ≤ xs.length
  · rw [Nat.min_eq_left h]
  · rw [Nat.min_eq_right (by omega), List.take_of_length_le (Nat.le_refl _), List.take_of_length_le (by omega)]
theorem cut_drop {xs : List V} (k : Nat) : cutV xs (some (k : Int)) none = xs.drop k := by
  unfold cutV
  rw [HT.sIx_none, HT.sIx_nat]
  by_cases h : k ≤ xs.length
  · rw [Nat.min_eq_left h, List.take_of_length_le (by simp)]
  · rw [Nat.min_eq_right (by omega), Nat.sub_self, List.drop_of_length_le (by omega), List.drop_of_length_le (by omega)]
    rfl
theorem cutS_nat {z : Str} {a b : Nat} : cutS z (some (a : Int)) (some (b : Int)) = str (((tl z).drop a).take (b - a)) := by
  show str (((tl z).drop (HT.sIx z.length 0 (some (a : Int)))).take (HT.sIx z.length z.length (some (b : Int)) - HT.sIx z.length 0 (some (a : Int)))) = _
  rw [HT.sIx_nat, HT.sIx_nat, len_tl]
  by_cases ha : a ≤ (tl z).length
  · rw [show min a (tl z).length = a by omega]
    by_cases h : b ≤ (tl z).length
    · rw [show min b (tl z).length = b by omega]
    · rw [show min b (tl z).length = (tl z).length by omega, List.take_of_length_le (by rw [List.length_drop]; omega), List.take_of_length_le (by rw [List.length_drop]; omega)]
  · rw [show min a (tl z).length = (tl z).length by omega]
    conv => rhs; rw [List.drop_of_length_le (by omega), List.take_nil]
    rw [List.drop_of_length_le (Nat.le_refl _), List.take_nil]
theorem atI_tl {x : Str} {i : Nat} {c : Nat} (h : (tl x)[i]? = some c) : atI x.cps.toList ((i : Nat) : Int) = some c := atI_nat h
theorem atI_lt {α : Type} {xs : List α} {i : Int} (h0 : 0 ≤ i) (h : i < xs.length) : atI xs i = some (xs[i.toNat]'(by omega)) := by
  obtain ⟨n, rfl⟩ : ∃ n : Nat, i = (n : Int) := ⟨i.toNat, by omega⟩
  have hn : n < xs.length := by omega
  have e := atI_nat (j := n) (List.getElem?_eq_getElem hn)
  simpa using e
theorem ixN_0 {n : Nat} (h : 0 < n) : ixN n 0 = some 0 := Evl.ixN_nat (j := 0) h
theorem ixN_1 {n : Nat} (h : 1 < n) : ixN n 1 = some 1 := Evl.ixN_nat (j := 1) h
theorem ixN_2 {n : Nat} (h : 2 < n) : ixN n 2 = some 2 := Evl.ixN_nat (j := 2) h
/-! ### steps by the head of a reading -/
section
variable {σ : L2.St} {H : Hp} {Q : VK} {D : Ends} {v : V} {te ta tb : TE} {t u c : TT} {t1 t2 t3 : TS} {g : TG} {i : Nat} {a b : Bool} {x y : Str} {k l : Int}
theorem go_c (q : Q v H) : tC v σ H Q := q
theorem go_nil {Q : List V → Hp → Prop} (q : Q [] H) : tNil σ H Q := q
theorem go_cons {tr : TA} {Q : List V → Hp → Prop} (q : te σ H fun x H1 => tr σ H1 fun xs H2 => Q (x :: xs) H2) : tCons te tr σ H Q := q
theorem go_call {sp : Sp} {dvs : List V} {E : XK} {tr : TA} (q : tr σ H fun vs H1 => sp (vs ++ dvs) H1 Q E) : tCall sp dvs E tr σ H Q := q
theorem go_cb {r : List V → Hp → VK → Prop} {tr : TA} (q : tr σ H fun vs H1 => r vs H1 Q) : tCB r tr σ H Q := q
theorem go_next (q : D.nx σ H) : tNext D σ H := q
theorem go_cont (q : D.ct σ H) : tCont D σ H := q
theorem go_brk (q : D.bk σ H) : tBreak D σ H := q
theorem go_name {Q : L2.St → Hp → Prop} (q : Q (σ.set i (some v)) H) : gName i v σ H Q := q
theorem go_seq (q : t1 { D with nx := t2 D } σ H) : tSeq t1 t2 D σ H := q
theorem go_asg (q : te σ H fun x H1 => g x σ H1 D.nx) : tAsg te g D σ H := q
theorem go_if (h : Ans c σ H a) (h1 : a = true → t1 D σ H) (h2 : a = false → t2 D σ H) : tIfS c t1 t2 D σ H := by
  cases a with
  | true => exact st_yes h (h1 rfl)
  | false => exact st_no h (h2 rfl)
theorem go_ifOr (h : Ans (tOr t u) σ H a) (h1 : a = true → t1 D σ H) (h2 : a = false → t2 D σ H) : tIfS (tOr t u) t1 t2 D σ H := go_if h h1 h2
theorem go_ifAnd (h : Ans (tAnd t u) σ H a) (h1 : a = true → t1 D σ H) (h2 : a = false → t2 D σ H) : tIfS (tAnd t u) t1 t2 D σ H := go_if h h1 h2
theorem go_or (h : Val (tOrV ta tb) σ H v) (q : Q v H) : tOrV ta tb σ H Q := h Q q
theorem go_and (h : Val (tAndV ta tb) σ H v) (q : Q v H) : tAndV ta tb σ H Q := h Q q
theorem go_not (h : Val (tNotV ta) σ H v) (q : Q v H) : tNotV ta σ H Q := h Q q
theorem go_ifE (h : Val (tIf t ta tb) σ H v) (q : Q v H) : tIf t ta tb σ H Q := h Q q
theorem val_orV (ha : Val ta σ H (.bl a)) (hb : Val tb σ H (.bl b)) : Val (tOrV ta tb) σ H (.bl (a || b)) := fun Q q => ha _ ⟨a, rfl, by
  cases a with
  | true => exact q
  | false => exact hb Q q⟩
theorem val_andV (ha : Val ta σ H (.bl a)) (hb : Val tb σ H (.bl b)) : Val (tAndV ta tb) σ H (.bl (a && b)) := fun Q q => ha _ ⟨a, rfl, by
  cases a with
  | true => exact hb Q q
  | false => exact q⟩
theorem val_notV (ha : Val ta σ H (.bl a)) : Val (tNotV ta) σ H (.bl (!a)) := fun Q q => ha _ ⟨a, rfl, q⟩
theorem val_ifS (h : Ans t σ H a) (ha : Val ta σ H (.str x)) (hb : Val tb σ H (.str y)) : Val (tIf t ta tb) σ H (.str (if a = true then x else y)) := fun Q q => h _ (by
  cases a with
  | true => exact ha Q q
  | false => exact hb Q q)
theorem val_ifI (h : Ans t σ H a) (ha : Val ta σ H (.int k)) (hb : Val tb σ H (.int l)) : Val (tIf t ta tb) σ H (.int (if a = true then k else l)) := fun Q q => h _ (by
  cases a with
  | true => exact ha Q q
  | false => exact hb Q q)
theorem val_ifB {p q : Bool} (h : Ans t σ H a) (ha : Val ta σ H (.bl p)) (hb : Val tb σ H (.bl q)) : Val (tIf t ta tb) σ H (.bl (if a = true then p else q)) := fun Q q => h _ (by
  cases a with
  | true => exact ha Q q
  | false => exact hb Q q)
theorem val_eqS (ha : Val ta σ H (.str x)) (hb : Val tb σ H (.str y)) : Val (tOp rEq ta tb) σ H (.bl (decide (x = y))) := fun Q q => ha _ (hb _ ⟨rfl, by rw [dec_eqS]; exact q⟩)
theorem val_eqI (ha : Val ta σ H (.int k)) (hb : Val tb σ H (.int l)) : Val (tOp rEq ta tb) σ H (.bl (decide (k = l))) := fun Q q => ha _ (hb _ ⟨rfl, by rw [dec_eqI]; exact q⟩)
theorem val_neS (ha : Val ta σ H (.str x)) (hb : Val tb σ H (.str y)) : Val (tOp rNe ta tb) σ H (.bl (!decide (x = y))) := fun Q q => ha _ (hb _ ⟨rfl, by rw [dec_eqS]; exact q⟩)
theorem val_neI (ha : Val ta σ H (.int k)) (hb : Val tb σ H (.int l)) : Val (tOp rNe ta tb) σ H (.bl (!decide (k = l))) := fun Q q => ha _ (hb _ ⟨rfl, by rw [dec_eqI]; exact q⟩)
theorem ans_test (h : Val te σ H (.bl a)) : Ans (tTest te) σ H a := fun Q q => h _ ⟨a, rfl, q⟩
theorem ans_or2 (h1 : Ans t σ H a) (h2 : Ans u σ H b) : Ans (tOr t u) σ H (a || b) := fun Q q => h1 _ (by
  cases a with
  | true => exact q
  | false => exact h2 Q q)
end
/-- a loop over the signs of a text -/
theorem for_str {z : Str} {g : TG} {tb : TS} {D : Ends} {σ : L2.St} {H : Hp} (Pv : Nat → L2.St → Hp → Prop) (h0 : Pv 0 σ H)
    (hs : ∀ (i c : Nat) σ H, (tl z)[i]? = some c → Pv i σ H → g (.str (sg c)) σ H fun σ2 H2 => tb { D with nx := Pv (i + 1), ct := Pv (i + 1), bk := D.nx } σ2 H2) (hd : ∀ σ H, Pv (tl z).length σ H → D.nx σ H) :
    ∃ W : Nat → Nat → L2.St → Hp → Prop, (∃ m, W 0 m σ H) ∧ ∀ i m σ H, W i m σ H →
      ((Its z).stop i H ∧ D.nx σ H) ∨ ((Its z).go i H ∧ ∃ N : L2.St → Hp → Prop, (∀ σ' H', N σ' H' → ∃ m', m' < m ∧ W (i + 1) m' σ' H') ∧ ∀ x H', (Its z).yld i H x H' → g x σ H' fun σ2 H2 => tb { D with nx := N, ct := N, bk := D.nx } σ2 H2) := by
  have el : (tl z).length = z.cps.size := by simp
  refine ⟨fun i m σ H => m = (tl z).length - i ∧ i ≤ (tl z).length ∧ Pv i σ H, ⟨(tl z).length, rfl, Nat.zero_le _, h0⟩, ?_⟩
  rintro i m σ H ⟨rfl, hi, p⟩
  by_cases hlt : i < (tl z).length
  · refine .inr ⟨(show i < z.cps.size by omega), Pv (i + 1), fun σ' H' p' => ⟨(tl z).length - (i + 1), by omega, rfl, hlt, p'⟩, fun x H' y => ?_⟩
    obtain ⟨rfl, c, hc, rfl⟩ := y
    exact hs i c σ _ (by rw [← hc]; simp) p
  · have e : i = (tl z).length := by omega
    subst e
    exact .inl ⟨Nat.le_of_eq el.symm, hd σ H p⟩
end LW
set_option Elab.async false
set_option linter.all false
set_option maxRecDepth 100000
set_option maxHeartbeats 1000000
/-! ListRev: list(reversed(x)), x a list: a new list. -/
namespace LW
open PySem PySem.Spec PyProof.Rows L2
section
variable {prog : Program} {w : World} {A : Around} {E : Value → Shared → Prop} {s : Shared}
theorem hint_rev {it l : Addr} {i : Int} {Q : Bool → Shared → Prop} (hit : s.heap.IsRevIter it l i) (h : Q false s) : wpAny (model prog w) A (Builtin.List.listLengthHint (.ref it)) Q E s := by
  have hT : s.TypeIs (.ref it) "list_reverseiterator" := hit.typeIs
  unfold Builtin.List.listLengthHint
  refine wpAny_bind (wpAny_specialOf hT RT.nolen_lri ?_)
  show wpAny _ A (specialOf (Value.ref it) (Str.ofString "__length_hint__") >>= _) _ _ _
  refine wpAny_bind (wpAny_specialOf hT RT.hint_lri ?_)
  generalize hid : ("list_reverseiterator.__length_hint__" : String) = id0
  wp_delta
  rw [show splitId id0 = some ("list_reverseiterator", "__length_hint__") from by subst hid; decide +kernel]
  subst hid
  refine wpAny_bind (wpAny_isInstance (b := true) hT (by rw [isSubtype_type]; kernel_rfl) ?_)
  exact wpAny_pure h
theorem extend_rev {R : Result → Shared → Prop} {it l : Addr} {items : Array Value} (hh : A.handled = none) (hit : s.heap.IsRevIter it l ((items.size : Int) - 1)) (hl : s.heap.IsList l items) (hne : l ≠ it) (hn : items.size ≤ sizeLine)
    (S : Addr) (hSi : S ≠ it) (hSl : S ≠ l) (res : Value) (c₀ : Nat) (hS : s.heap.get? S = some { cls := .type "list", data := .seq #[] c₀ })
    (hR : ∀ h' tk acc' c', (∀ b o, b ≠ S → b ≠ it → s.heap.get? b = some o → h'.get? b = some o) → h'.get? S = some { cls := .type "list", dict := none, data := .seq acc' c', slots := #[] } → ItemsOf (fun i v => items[items.size - 1 - i]? = some v) acc' items.size → R (.ok (.ret res)) { s with heap := h', toks := tk }) :
    wpAny (model prog w) A.in1 (Builtin.List.listExtendWith (.ref S) (.ref it) res)
      (fun fin s' => match fin with | .done f => R (.ok f) s' | .again c' => c'.quiet = true ∧ codeAny (model prog w) A c' R s') (fun e s' => R (.error e) s') s := by
  have W := (Walks.listRev (prog := prog) (w := w) (A := A.in1) hh it l hne items).toS
  have hSf : S ∉ [it, l] := by simp only [List.mem_cons, List.not_mem_nil, or_false, not_or]; exact ⟨hSi, hSl⟩
  have hT : s.TypeIs (.ref it) "list_reverseiterator" := hit.typeIs
  have e0 : ((items.size : Nat) : Int) - 1 - ((0 : Nat) : Int) = (items.size : Int) - 1 := by omega
  have h1 : Builtin.List.listSameRef (.ref S) (.ref it) = false := by simp [Builtin.List.listSameRef, hSi]
  unfold Builtin.List.listExtendWith
  refine wpAny_bind (wpAny_typeOf hT ?_)
  rw [if_neg (by rw [h1]; decide)]
  refine wpAny_bind (wpAny_pyIter_revIter hit ?_)
  refine wpAny_bind (wpAny_holding (hint_rev hit ?_))
  refine wpAny_pure ⟨plainId_quiet F.plain_extend_loop _, codeAny_extend_loopS W hn S hSf res items.size 0 _ #[] c₀ rfl (Nat.zero_le _) ⟨Nat.zero_le _, by rw [e0]; exact hit, hl⟩ hS (ItemsOf.nil _) fun s' acc' c' hm hS' hacc => ?_⟩
  rw [Moved.eq_with hm]
  refine hR s'.heap s'.toks acc' c' (fun b o hb hb2 e => hm.heap b o (fun hmem => ?_) e) hS' hacc
  rcases List.mem_cons.mp hmem with e' | hmem
  · exact hb e'
  · exact hb2 (List.mem_singleton.mp hmem)
theorem init_rev {R : Result → Shared → Prop} {it l : Addr} {items : Array Value} (hh : A.handled = none) (hit : s.heap.IsRevIter it l ((items.size : Int) - 1)) (hl : s.heap.IsList l items) (hne : l ≠ it) (hn : items.size ≤ sizeLine)
    (S : Addr) (hSi : S ≠ it) (hSl : S ≠ l) (hS : s.heap.get? S = some { cls := .type "list", data := .seq #[] })
    (hR : ∀ h' tk acc' c', (∀ b o, b ≠ S → b ≠ it → s.heap.get? b = some o → h'.get? b = some o) → h'.get? S = some { cls := .type "list", dict := none, data := .seq acc' c', slots := #[] } → ItemsOf (fun i v => items[items.size - 1 - i]? = some v) acc' items.size → R (.ok (.ret .none)) { s with heap := h', toks := tk }) :
    wpAny (model prog w) A.in1 (Builtin.«list.__init__» ⟨[.ref S, .ref it], []⟩)
      (fun fin s' => match fin with | .done f => R (.ok f) s' | .again c' => c'.quiet = true ∧ codeAny (model prog w) A c' R s') (fun e s' => R (.error e) s') s := by
  show wpAny _ _ (do let old ← Builtin.List.listItems (.ref S); Builtin.List.listUpdate (.ref S) (fun _ => #[]); letGo old.toList.reverse; Builtin.List.listExtendWith (.ref S) (.ref it) .none) _ _ s
  refine wpAny_bind ?_
  unfold Builtin.List.listItems
  refine wpAny_bind (wpAny_seqItems hS rfl (wpAny_pure ?_))
  show wpAny _ _ (updateSeq S (fun _ => #[]) >>= fun _ => letGo (#[] : Array Value).toList.reverse >>= fun _ => Builtin.List.listExtendWith (.ref S) (.ref it) .none) _ _ s
  refine wpAny_bind (wpAny_updateSeq hS rfl ?_)
  have hS₂ := Heap.get?_update_self (Obj.mapSeq (fun _ => (#[] : Array Value))) hS rfl
  have oth : ∀ b o, b ≠ S → s.heap.get? b = some o → (s.heap.update S (Obj.mapSeq (fun _ => (#[] : Array Value)))).get? b = some o :=
    fun b o hb e => (Heap.get?_update_other _ _ (Ne.symm hb)).trans e
  refine wpAny_bind (wpAny_letGo ?_)
  refine extend_rev hh (hit.at fun o e => oth it o (Ne.symm hSi) e) (let ⟨o, ho, x⟩ := hl; ⟨o, oth l o (Ne.symm hSl) ho, x⟩) hne hn S hSi hSl .none _ hS₂ fun h' tk acc' c' hk hS' hacc => ?_
  exact hR h' tk acc' c' (fun b o hb hb2 e => hk b o hb hb2 (oth b o hb e)) hS' hacc
theorem call_list_rev {it l : Addr} {items : Array Value} {Q : Value → Shared → Prop} (hh : A.handled = none) (hit : s.heap.IsRevIter it l ((items.size : Int) - 1)) (hl : s.heap.IsList l items) (hne : l ≠ it) (hn : items.size ≤ sizeLine)
    (hQ : ∀ h' tk acc' c', (∀ b o, b ≠ it → s.heap.get? b = some o → h'.get? b = some o) → h'.get? s.heap.objs.size = some { cls := .type "list", dict := none, data := .seq acc' c', slots := #[] } →
      ItemsOf (fun i v => items[items.size - 1 - i]? = some v) acc' items.size → Q (.ref s.heap.objs.size) { s with heap := h', toks := tk }) :
    wpAny (model prog w) A (call (.type "list") [.ref it]) Q E s := by
  refine callType_codes (Q₁ := fun obj s₁ => obj = .ref s.heap.objs.size ∧ s₁ = { s with heap := s.heap.push { cls := .type "list", data := .seq #[] } }) F.called_list (F.typeCall_list_1 _) F.entry_list_init
    (code_list_new _ ⟨rfl, rfl⟩) fun obj s₁ h₁ => ?_
  obtain ⟨rfl, rfl⟩ := h₁
  have hS : (s.heap.push { cls := .type "list", data := .seq #[] }).get? s.heap.objs.size = some { cls := .type "list", data := .seq #[] } := Heap.get?_push_size _ rfl
  obtain ⟨oi, hoi, _⟩ := id hit
  obtain ⟨ol, hol, _⟩ := id hl
  refine ⟨⟨_, hS, rfl⟩, F.args_list_init_2 _ _, init_rev (A := A.in1) hh (hit.at fun o e => Heap.get?_push_of_some _ e) (hl.push _) hne hn _ (Nat.ne_of_gt (Heap.lt_size hoi)) (Nat.ne_of_gt (Heap.lt_size hol)) hS fun h' tk acc' c' hk hS' hacc => ?_⟩
  exact ⟨rfl, hQ h' tk acc' c' (fun b o hb e => hk b o (Nat.ne_of_lt (Heap.lt_size e)) hb (Heap.get?_push_of_some _ e)) hS' hacc⟩
end
/-- list(reversed(x)), x a list: a new list -/
def tLstRev (K : PySem.W.Frag) (te : TE) : TE := fun σ H Q => te σ H fun v H1 => ∃ (a : Addr) (xs : List V), v = .ref a ∧ SqL K H1 a xs ∧ ∀ q, H1 q = none → Q (.ref q) (upd H1 q (.lst xs.reverse))
section
variable {X : Cx}
theorem pe_listRev {e : Expr} {te : TE} {p p2 pos pos2 : Pos} (hc : X.calm = true) (hg : Gl X "list") (hm : X.mg "list" = none) (hg2 : Gl X "reversed") (hm2 : X.mg "reversed" = none) (he : PE X e te)
    (hs : starEach [e] X.env = (false, eval e X.env) :: starEach [] X.env := by rfl)
    (hs2 : starEach [.Call (.Name "reversed" p2) [e] [] pos2] X.env = (false, eval (.Call (.Name "reversed" p2) [e] [] pos2) X.env) :: starEach [] X.env := by rfl) :
    PE X (.Call (.Name "list" p) [.Call (.Name "reversed" p2) [e] [] pos2] [] pos) (tLstRev X.K te) := by
  refine ⟨fun pins s σ H Q I h => ?_⟩
  refine Call_ (ld_blt I hg hm boot_list (PyProof.Rows.callWith_type1 (args_cons (Call_ (ld_blt I hg2 hm2 PyProof.Rows.boot_reversed (PyProof.Rows.callWith_type1 (args_cons (thn (he.run pins s σ H _ I h) fun u s1 ⟨v, H1, I1, r1, q1⟩ => args_nil ?_) hs) hs rfl))) hs2) hs2))
  obtain ⟨a, xs, ev, hq, q⟩ := q1
  subst ev
  obtain rfl : u = Value.ref a := r1
  obtain ⟨its, rv, p', hz⟩ := I1.list hq
  refine call_reversed_list p'.isList (args_nil ?_)
  have hl := p'.isList
  obtain ⟨ol, hol, _⟩ := id hl
  have hne : a ≠ s1.heap.objs.size := Nat.ne_of_lt (Heap.lt_size hol)
  have hn : its.toArray.size ≤ sizeLine := by rw [List.size_toArray, ← rv.length]; exact hz
  refine call_list_rev (s := { s1 with heap := s1.heap.push (revObj a ((its.toArray.size : Int) - 1)) }) (I1.ok.hd hc) ⟨_, Heap.get?_push_size _ rfl, rfl, rfl⟩ (hl.push _) hne hn fun h' tk acc c' hk hS hi => ?_
  have hk1 : ∀ b o, s1.heap.get? b = some o → h'.get? b = some o := fun b o e => hk b o (Nat.ne_of_lt (Heap.lt_size e)) (Heap.get?_push_of_some _ e)
  have hle : s1.heap.objs.size ≤ (s1.heap.push (revObj a ((its.toArray.size : Int) - 1))).objs.size := by simp [Heap.push]
  refine ⟨.ref (s1.heap.push (revObj a ((its.toArray.size : Int) - 1))).objs.size, upd H1 (s1.heap.push (revObj a ((its.toArray.size : Int) - 1))).objs.size (.lst xs.reverse), I1.laid hk1 hle (show ObjOk X.prog X.w _ _ _ (.lst xs.reverse) from ⟨by rw [List.length_reverse]; exact hz, acc.toList, c', RT.vals_rev rv hi, ?_⟩), rfl, q _ (I1.hok.fresh hle)⟩
  rw [Array.toArray_toList]
  exact hS
end
/-! ### x = {k: v for ..} -/
theorem sw_trueD {kx vx : Expr} {gs : List Comprehension} {scope : Scope} {pos py : Pos} {y : Str} {l : Nat} {env : Env} (hk : env.scope.kind = .function) (hy : env.scope.names.lookup y = some .local) (hl : (py.line == pos.line) = true)
    (ha : (scope.names.any fun (n, k) => n == y && (k == .local || k == .cell)) = false) : swapsWith (.DictComp kx vx gs scope pos) (some (.Name y py)) l env = pure true := by
  have ky : env.kindOf y = some .local := hy
  have hb : env.blockKind = .function := by unfold Env.blockKind; rw [hk]; rfl
  unfold swapsWith
  simp only [hb, ky, ha, Expr.pos, hl]
  rfl
section
variable {X : Cx}
theorem ps_setDc {i : Nat} {y : Str} {py : Pos} {kx vx tg iter : Expr} {ifs : List Expr} {scope : Scope} {own : List (Str × Nat)} {pos spos : Pos} {wi : TI} {g : TG} {tt : TT} {tk tv : TE} (hc : X.calm = true) (hN : X.N.Nodup) (hy : X.N[i]? = some y) (hyl : X.env.scope.names.lookup y = some .local)
    (hsw : swapsWith (.DictComp kx vx [⟨tg, iter, ifs, 0⟩] scope pos) (some (.Name y py)) spos.line X.env = pure true) (hi : PI X tg iter wi) (ok : BlkOk X.N X.env.scope scope own)
    (hg : ∀ (s : Shared) (H : Hp) (C : Addr) (cl : List (Str × Addr)) (fp : List Addr), PG (X.blk s H scope (compEnvC scope cl C X.env) fp) tg g) (ht : ∀ (s : Shared) (H : Hp) (C : Addr) (cl : List (Str × Addr)) (fp : List Addr), PTs (X.blk s H scope (compEnvC scope cl C X.env) fp) ifs tt)
    (hk : ∀ (s : Shared) (H : Hp) (C : Addr) (cl : List (Str × Addr)) (fp : List Addr), PE (X.blk s H scope (compEnvC scope cl C X.env) fp) kx tk)
    (he : ∀ (s : Shared) (H : Hp) (C : Addr) (cl : List (Str × Addr)) (fp : List Addr), PE (X.blk s H scope (compEnvC scope cl C X.env) fp) vx tv) (hs : ∀ x, foldedSetIterable iter X.env x = pure x := by intro _; rfl) :
    PS X (.Assign [.Name y py] (.DictComp kx vx [⟨tg, iter, ifs, 0⟩] scope pos) spos) (tAsg (tDc wi g tt tk tv (own.map (·.2))) (gName i)) := by
  refine ⟨fun pins s σ H D I h => ?_⟩
  rw [exec_Assign_Name_used _ _ _ _ hsw]
  refine wpAny_bind (wpAny_standAt (wpAny_bind ?_))
  show wpAny _ X.A (do let _ ← comprehension (.DictComp kx vx [⟨tg, iter, ifs, 0⟩] scope pos) scope X.env (firstIterPos [⟨tg, iter, ifs, 0⟩] pos) newDict false (eval iter X.env) (some (assign (.Name y py) X.env))) _ _ s
  have h : tDc wi g tt tk tv (own.map (·.2)) σ H (fun x H1 => gName i x σ H1 D.nx) := h
  refine wpAny_bind (thn (dc_core (Qf := fun _ s' => SP X pins D .next s') hc hN I hi ok hg ht hk he hs h fun L C s' m H' I' q hn f => ?_) fun _ s' hq => wpAny_pure (wpAny_pure hq))
  show wpAny _ _ (assign (.Name y py) X.env (.ref L)) _ _ _
  refine wpAny_assign_Name (store_ok2 (v := V.ref L) I' hN hy (.inl hyl) rfl (fun s2 I2 ⟨a, sb, ha⟩ => ?_) (.inr hyl))
  obtain ⟨f0, f1, f2, f3, f4, f5⟩ := f
  have haC : C ≠ a := by
    rcases ha with z | z
    · rw [z]; exact f1
    · exact fun e => f4 y a z e.symm
  refine ⟨m, hn.sameBut sb haC, fun h3 sb3 => ?_⟩
  exact ⟨_, H', I2.turned (t' := s2.toks) (fun b o hb e => (sb3.2 b hb).trans e) f0 f1 f3 f4 f5, q⟩
/-! ### rules within a comprehension's block: K stays the same -/
theorem ix_listB {K : PySem.W.Frag} (h : X.K = K) : IxR X (rIxL K) := by
  subst h
  exact ix_list
theorem ix_tupB {K : PySem.W.Frag} (h : X.K = K) : IxR X (rIxT K) := by
  subst h
  exact ix_tup
theorem op_inB {K : PySem.W.Frag} (h : X.K = K) : OpR X (compareOp .In) (rIn K false) := by
  subst h
  exact op_in_seq
theorem op_notInB {K : PySem.W.Frag} (h : X.K = K) : OpR X (compareOp .NotIn) (rIn K true) := by
  subst h
  exact op_notIn_seq
theorem call_lenB {K : PySem.W.Frag} (h : X.K = K) : CallR X (.builtin "len") (fun xs H Q => ∃ p ys, xs = [.ref p] ∧ (SqL K H p ys ∨ SqT K H p ys) ∧ Q (.int ys.length) H) := by
  subst h
  exact call_len_seq
theorem cr_allB {K : PySem.W.Frag} (hc : X.calm = true) (h : X.K = K) : CallR X (.builtin "all") (rAll K) := by
  subst h
  exact cr_all hc
theorem cr_anyB {K : PySem.W.Frag} (hc : X.calm = true) (h : X.K = K) : CallR X (.builtin "any") (rAny K) := by
  subst h
  exact cr_any hc
end
/-- a dict over a list that stays -/
theorem dc_list {K : PySem.W.Frag} {a : Addr} {xs : List V} {g : TG} {tt : TT} {tk tv : TE} {vs : List Nat} {σ : L2.St} {H1 : Hp} {D : Addr} {Qd : Hp → Prop} (Pv : Nat → Hp → Prop) (h0 : Pv 0 (upd H1 D (.dK []))) (hl : ∀ i H, i ≤ xs.length → Pv i H → SqL K H a xs)
    (hs : ∀ i x H, xs[i]? = some x → Pv i H → g x (wipe σ vs) H fun σ2 H2 => wipe σ2 vs = wipe σ vs ∧ tt σ2 H2 fun b H3 =>
      if b = true then tk σ2 H3 fun y H4 => tv σ2 H4 fun z H5 => ∃ kvs k, y = kV k ∧ H5 D = some (.dK kvs) ∧ kvs.length < sizeLine ∧ Pv (i + 1) (upd H5 D (.dK (putK kvs k z))) else Pv (i + 1) H3) (hd : ∀ H, Pv xs.length H → Qd H) :
    ∃ W : Nat → Nat → Hp → Prop, (∃ m, W 0 m (upd H1 D (.dK []))) ∧ ∀ i m H, W i m H →
      ((Itl K a).stop i H ∧ Qd H) ∨ ((Itl K a).go i H ∧ ∃ Nx : Hp → Prop, (∀ H', Nx H' → ∃ m', m' < m ∧ W (i + 1) m' H') ∧ ∀ x H', (Itl K a).yld i H x H' → g x (wipe σ vs) H' fun σ2 H2 => wipe σ2 vs = wipe σ vs ∧ tt σ2 H2 fun b H3 =>
        if b = true then tk σ2 H3 fun y H4 => tv σ2 H4 fun z H5 => ∃ kvs k, y = kV k ∧ H5 D = some (.dK kvs) ∧ kvs.length < sizeLine ∧ Nx (upd H5 D (.dK (putK kvs k z))) else Nx H3) := by
  refine ⟨fun i m H => m = xs.length - i ∧ i ≤ xs.length ∧ Pv i H, ⟨xs.length, by simp, Nat.zero_le _, h0⟩, ?_⟩
  rintro i m H ⟨rfl, hi, p⟩
  have q := hl i H hi p
  by_cases hlt : i < xs.length
  · refine .inr ⟨⟨xs, xs[i], q, by simp [hlt]⟩, Pv (i + 1), fun H' p' => ⟨xs.length - (i + 1), by omega, rfl, hlt, p'⟩, fun x H' y => ?_⟩
    obtain ⟨e, y⟩ := y
    subst e
    exact hs i x _ (y xs q) p
  · have e : i = xs.length := by omega
    subst e
    exact .inl ⟨⟨xs, q, Nat.le_refl _⟩, hd H p⟩
section
variable {ta tb : TE} {σ : L2.St} {H : Hp} {a : Bool} {Q : VK}
theorem go_andL (h : Val ta σ H (.bl a)) (h1 : a = true → tb σ H Q) (h2 : a = false → Q (.bl false) H) : tAndV ta tb σ H Q := h _ ⟨a, rfl, by
  cases a with
  | true => exact h1 rfl
  | false => exact h2 rfl⟩
theorem go_orL (h : Val ta σ H (.bl a)) (h1 : a = true → Q (.bl true) H) (h2 : a = false → tb σ H Q) : tOrV ta tb σ H Q := h _ ⟨a, rfl, by
  cases a with
  | true => exact h1 rfl
  | false => exact h2 rfl⟩
end
theorem go_ret {te : TE} {σ : L2.St} {H : Hp} {D : Ends} (q : te σ H D.rt) : tRet te D σ H := q
theorem but_mut {H H' : Hp} {p o : Addr} {x : HO} (h : But p H H') (n : H o = none) : But p H (upd H' o x) := fun b y nb e => by
  rw [upd_ne (ne_of_none e n)]
  exact h b y nb e
theorem go_min {x y : Int} {H : Hp} {Q : V → Hp → Prop} (q : Q (V.int (if y < x then y else x)) H) : ∃ i j : Int, [V.int x, V.int y] = [V.int i, V.int j] ∧ Q (V.int (if j < i then j else i)) H := ⟨x, y, rfl, q⟩
end LW
set_option Elab.async false
set_option linter.all false
set_option maxRecDepth 100000
/-! K17Plain: nets, what is made of kept nodes, the way around: no program in sight. -/
namespace NT
open PySem PySem.Spec PyProof.Rows L2 TL LW
structure Rw where
  sz : Int
  ops : List Int
  src : Bool
/-- what a node must be -/
def Ok (i : Nat) (r : Rw) : Prop := 1 ≤ r.sz ∧ (∀ o ∈ r.ops, 0 ≤ o ∧ o < (i : Int)) ∧ (r.src = true → r.ops = []) ∧ r.ops.length + 10 * r.sz.toNat ≤ 34
def WF (rs : List Rw) : Prop := ∀ i r, rs[i]? = some r → Ok i r
theorem WF.nil : WF [] := fun i r h => by simp at h
theorem WF.snoc {rs : List Rw} {r : Rw} (h : WF rs) (k : Ok rs.length r) : WF (rs ++ [r]) := fun i x e => by
  by_cases hi : i < rs.length
  · rw [List.getElem?_append_left hi] at e
    exact h i x e
  · have hl := (List.getElem?_eq_some_iff.mp e).1
    rw [List.length_append, List.length_singleton] at hl
    have : i = rs.length := by omega
    subst this
    simp at e
    subst e
    exact k
/-- one flag -/
def flag (f : List Bool) (o : Int) : Bool := f.getD o.toNat false
def mk1 (f : List Bool) (k : List Int) (i : Nat) (r : Rw) : Bool := decide ((i : Int) ∈ k) || (!r.src && r.ops.all (flag f))
/-- the flags of the first nodes -/
def fl (rs : List Rw) (k : List Int) : Nat → List Bool
  | 0 => []
  | n + 1 => fl rs k n ++ (match rs[n]? with | some r => [mk1 (fl rs k n) k n r] | none => [])
theorem fl_len {rs : List Rw} {k : List Int} : ∀ n, n ≤ rs.length → (fl rs k n).length = n
  | 0, _ => rfl
  | n + 1, h => by
    have e : rs[n]? = some rs[n] := List.getElem?_eq_getElem (by omega)
    unfold fl
    rw [e, List.length_append, fl_len n (by omega)]
    rfl
theorem fl_succ {rs : List Rw} {k : List Int} {n : Nat} {r : Rw} (e : rs[n]? = some r) : fl rs k (n + 1) = fl rs k n ++ [mk1 (fl rs k n) k n r] := by
  show fl rs k n ++ (match rs[n]? with | some r => [mk1 (fl rs k n) k n r] | none => []) = _
  rw [e]
theorem fl_pre {rs : List Rw} {k : List Int} : ∀ (m n i : Nat), m ≤ rs.length → n ≤ m → i < n → (fl rs k m)[i]? = (fl rs k n)[i]?
  | 0, n, i, _, h1, h2 => by omega
  | m + 1, n, i, h, h1, h2 => by
    by_cases hn : n = m + 1
    · subst hn; rfl
    · have e : rs[m]? = some rs[m] := List.getElem?_eq_getElem (by omega)
      rw [fl_succ e, List.getElem?_append_left (by rw [fl_len m (by omega)]; omega)]
      exact fl_pre m n i (by omega) (by omega) h2
/-- all flags -/
def flags (rs : List Rw) (k : List Int) : List Bool := fl rs k rs.length
theorem flags_len {rs : List Rw} {k : List Int} : (flags rs k).length = rs.length := fl_len _ (Nat.le_refl _)
theorem flag_pre {rs : List Rw} {k : List Int} {n : Nat} (hn : n ≤ rs.length) {o : Int} (h0 : 0 ≤ o) (h1 : o < (n : Int)) : flag (fl rs k n) o = flag (flags rs k) o := by
  unfold flag flags
  rw [List.getD_eq_getElem?_getD, List.getD_eq_getElem?_getD, fl_pre rs.length n o.toNat (Nat.le_refl _) hn (by omega)]
theorem flags_at {rs : List Rw} {k : List Int} (w : WF rs) {i : Nat} {r : Rw} (e : rs[i]? = some r) : flag (flags rs k) i = mk1 (flags rs k) k i r := by
  have hi : i < rs.length := (List.getElem?_eq_some_iff.mp e).1
  have h1 : flag (fl rs k (i + 1)) (i : Int) = flag (flags rs k) (i : Int) := flag_pre (by omega) (by omega) (by omega)
  rw [← h1, fl_succ e]
  unfold flag
  rw [List.getD_eq_getElem?_getD, show ((i : Int)).toNat = i from by omega, List.getElem?_append_right (by rw [fl_len i (by omega)]; omega), fl_len i (by omega), Nat.sub_self]
  show mk1 (fl rs k i) k i r = mk1 (flags rs k) k i r
  unfold mk1
  congr 2
  have : ∀ l : List Int, (∀ o ∈ l, 0 ≤ o ∧ o < (i : Int)) → l.all (flag (fl rs k i)) = l.all (flag (flags rs k)) := by
    intro l
    induction l with
    | nil => intro _; rfl
    | cons o l ih =>
      intro h
      rw [List.all_cons, List.all_cons, ih fun x hx => h x (List.mem_cons_of_mem _ hx), flag_pre (by omega) (h o List.mem_cons_self).1 (h o List.mem_cons_self).2]
  exact this _ (w i r e).2.1
theorem flags_get {rs : List Rw} {k : List Int} {i : Nat} (hi : i < rs.length) : (flags rs k)[i]? = some (flag (flags rs k) i) := by
  have hl : i < (flags rs k).length := by rw [flags_len]; exact hi
  unfold flag
  rw [List.getD_eq_getElem?_getD, show ((i : Int)).toNat = i from by omega, List.getElem?_eq_getElem hl]
  rfl
/-- the nodes that are made -/
def made (rs : List Rw) (k : List Int) : List Int := ((List.range rs.length).filter fun (i : Nat) => flag (flags rs k) (i : Int)).map fun (i : Nat) => (i : Int)
/-- the operands without a flag -/
def bare (f : List Bool) (l : List Int) : List Int := l.filter fun o => !flag f o
/-- the way down -/
inductive Way (rs : List Rw) (f : List Bool) : Nat → List Int → Prop
  | src {v : Nat} {r : Rw} : rs[v]? = some r → r.src = true → Way rs f v [(v : Int)]
  | step {v o : Nat} {r : Rw} {l : List Int} : rs[v]? = some r → r.src = false → (bare f r.ops)[0]? = some (o : Int) → Way rs f o l → Way rs f v ((v : Int) :: l)
theorem Way.one {rs : List Rw} {f : List Bool} : ∀ {v : Nat} {l : List Int}, Way rs f v l → ∀ {m : List Int}, Way rs f v m → l = m := by
  intro v l h
  induction h with
  | src e s =>
    intro m k
    cases k with
    | src => rfl
    | step e2 s2 _ _ =>
      rw [e] at e2
      cases e2
      rw [s] at s2
      cases s2
  | step e s b w ih =>
    intro m k
    cases k with
    | src e2 s2 =>
      rw [e] at e2
      cases e2
      rw [s] at s2
      cases s2
    | step e2 s2 b2 w2 =>
      rw [e] at e2
      cases e2
      rw [b] at b2
      have := Option.some.inj b2
      have := Int.ofNat.inj this
      subst this
      rw [ih w2]
/-- an operand without a flag, where there is none of the node itself -/
theorem bare_one {rs : List Rw} {k : List Int} (w : WF rs) {v : Nat} {r : Rw} (e : rs[v]? = some r) (s : r.src = false) (h : flag (flags rs k) v = false) :
    ∃ o : Nat, (bare (flags rs k) r.ops)[0]? = some (o : Int) ∧ o < v ∧ flag (flags rs k) o = false ∧ (o : Int) ∈ r.ops := by
  rw [flags_at w e] at h
  unfold mk1 at h
  rw [s] at h
  simp only [Bool.or_eq_false_iff, Bool.not_false, Bool.true_and] at h
  obtain ⟨_, h2⟩ := h
  have h3 : ∃ x ∈ r.ops, flag (flags rs k) x = false := by
    rw [List.all_eq_false] at h2
    obtain ⟨x, hx, hf⟩ := h2
    exact ⟨x, hx, by simpa using hf⟩
  obtain ⟨x, hx, hf⟩ := h3
  have hm : x ∈ bare (flags rs k) r.ops := List.mem_filter.mpr ⟨hx, by rw [hf]; rfl⟩
  cases hb : bare (flags rs k) r.ops with
  | nil =>
    rw [hb] at hm
    cases hm
  | cons o l =>
    have hmem : o ∈ bare (flags rs k) r.ops := by rw [hb]; exact List.mem_cons_self
    obtain ⟨h4, h5⟩ := List.mem_filter.mp hmem
    obtain ⟨h6, h7⟩ := (w v r e).2.1 o h4
    refine ⟨o.toNat, ?_, by omega, ?_, ?_⟩
    · show some o = _
      rw [Int.toNat_of_nonneg h6]
    · rw [Int.toNat_of_nonneg h6]
      simpa using h5
    · rw [Int.toNat_of_nonneg h6]
      exact h4
/-! ### rows in the heap; operands stand in tuples or in lists -/
def OpsT (H : Hp) (o : Addr) (l : List Int) : Prop := H o = some (.tup (l.map V.int))
def OpsL (H : Hp) (o : Addr) (l : List Int) : Prop := H o = some (.lst (l.map V.int))
def RowT (H : Hp) (v : V) (r : Rw) : Prop := ∃ t o, v = .ref t ∧ H t = some (.tup [.int r.sz, .ref o, .bl r.src]) ∧ OpsT H o r.ops
def RowL (H : Hp) (v : V) (r : Rw) : Prop := ∃ t o, v = .ref t ∧ H t = some (.tup [.int r.sz, .ref o, .bl r.src]) ∧ OpsL H o r.ops
/-- all of a list, one by one -/
inductive Each {α : Type} (P : V → α → Prop) : List V → List α → Prop
  | nil : Each P [] []
  | cons {v : V} {a : α} {vs : List V} {as : List α} : P v a → Each P vs as → Each P (v :: vs) (a :: as)
theorem Each.mono {α : Type} {P R : V → α → Prop} (h : ∀ v a, P v a → R v a) : ∀ {vs : List V} {as : List α}, Each P vs as → Each R vs as
  | _, _, .nil => .nil
  | _, _, .cons p r => .cons (h _ _ p) (r.mono h)
theorem Each.len {α : Type} {P : V → α → Prop} : ∀ {vs : List V} {as : List α}, Each P vs as → vs.length = as.length
  | _, _, .nil => rfl
  | _, _, .cons _ r => by rw [List.length_cons, List.length_cons, r.len]
theorem Each.get {α : Type} {P : V → α → Prop} : ∀ {vs : List V} {as : List α} {i : Nat} {a : α}, Each P vs as → as[i]? = some a → ∃ v, vs[i]? = some v ∧ P v a
  | _, _, _, _, .nil, e => by simp at e
  | _, _, 0, _, .cons p _, e => by
    simp at e
    subst e
    exact ⟨_, rfl, p⟩
  | _, _, i + 1, _, .cons _ r, e => by
    obtain ⟨v, e1, p⟩ := r.get (i := i) (by simpa using e)
    exact ⟨v, by simpa using e1, p⟩
theorem Each.got {α : Type} {P : V → α → Prop} {vs : List V} {as : List α} {i : Nat} {v : V} (h : Each P vs as) (e : vs[i]? = some v) : ∃ a, as[i]? = some a ∧ P v a := by
  have hi : i < as.length := by
    rw [← h.len]
    exact (List.getElem?_eq_some_iff.mp e).1
  obtain ⟨u, e1, p⟩ := h.get (List.getElem?_eq_getElem hi)
  rw [e] at e1
  cases e1
  exact ⟨_, List.getElem?_eq_getElem hi, p⟩
theorem Each.snoc {α : Type} {P : V → α → Prop} {v : V} {a : α} : ∀ {vs : List V} {as : List α}, Each P vs as → P v a → Each P (vs ++ [v]) (as ++ [a])
  | _, _, .nil, p => .cons p .nil
  | _, _, .cons q r, p => .cons q (r.snoc p)
theorem RowT.same {H H' : Hp} (e : Same H H') {v : V} {r : Rw} : RowT H v r → RowT H' v r := fun ⟨t, o, h1, h2, h3⟩ => ⟨t, o, h1, e _ _ h2, e _ _ h3⟩
theorem RowT.ts {H H' : Hp} (e : Ts H H') {v : V} {r : Rw} : RowT H v r → RowT H' v r := fun ⟨t, o, h1, h2, h3⟩ => ⟨t, o, h1, e _ _ h2, e _ _ h3⟩
theorem RowL.same {H H' : Hp} (e : Same H H') {v : V} {r : Rw} : RowL H v r → RowL H' v r := fun ⟨t, o, h1, h2, h3⟩ => ⟨t, o, h1, e _ _ h2, e _ _ h3⟩
def RowsT (H : Hp) (a : Addr) (rs : List Rw) : Prop := ∃ xs, H a = some (.lst xs) ∧ Each (RowT H) xs rs
def RowsL (H : Hp) (a : Addr) (rs : List Rw) : Prop := ∃ xs, H a = some (.lst xs) ∧ Each (RowL H) xs rs
theorem RowsT.same {H H' : Hp} (e : Same H H') {a : Addr} {rs : List Rw} : RowsT H a rs → RowsT H' a rs := fun ⟨xs, h1, h2⟩ => ⟨xs, e _ _ h1, h2.mono fun _ _ => RowT.same e⟩
theorem RowsL.same {H H' : Hp} (e : Same H H') {a : Addr} {rs : List Rw} : RowsL H a rs → RowsL H' a rs := fun ⟨xs, h1, h2⟩ => ⟨xs, e _ _ h1, h2.mono fun _ _ => RowL.same e⟩
/-- a list of numbers -/
abbrev Ints (H : Hp) (a : Addr) (l : List Int) : Prop := H a = some (.lst (l.map V.int))
theorem inV_int {x : Int} : ∀ {l : List Int}, inV (.int x) (l.map V.int) = decide (x ∈ l)
  | [] => rfl
  | y :: l => by
    have ih := inV_int (x := x) (l := l)
    show (eqV (.int y) (.int x) || inV (.int x) (l.map V.int)) = _
    rw [ih]
    by_cases e : x = y
    · subst e; simp [eqV]
    · have : ¬ y = x := fun z => e z.symm
      simp [eqV, e, this]
theorem flat_ints : ∀ {l : List Int}, (l.map V.int).all flatV = true
  | [] => rfl
  | _ :: l => by
    rw [List.map_cons, List.all_cons, flat_ints (l := l)]
    rfl
theorem at_flag {f : List Bool} {o : Int} (h0 : 0 ≤ o) (h1 : o < (f.length : Int)) : atI (f.map V.bl) o = some (.bl (flag f o)) := by
  obtain ⟨v, hv, e⟩ := atI_map (f := V.bl) h0 h1
  rw [e]
  unfold flag
  rw [List.getD_eq_getElem?_getD, hv]
  rfl
theorem putK_le {κ : Type} [DecidableEq κ] (c : List (κ × V)) (k : κ) (x : V) : (putK c k x).length ≤ c.length + 1 := by
  unfold putK
  split
  · rw [List.length_map]
    omega
  · rw [List.length_append]
    exact Nat.le_refl _
theorem has_put {kvs : List (Key × V)} {v x : Int} {l : List Int} {y : V} (h : (valV kvs (Sum.inl x : Key)).isSome = decide (x ∈ l)) : (valV (putK kvs (Sum.inl v) y) (Sum.inl x : Key)).isSome = decide (x ∈ l ++ [v]) := by
  rw [valV_put]
  by_cases e : x = v
  · subst e; simp
  · have : ¬ ((Sum.inl x : Key) = Sum.inl v) := fun z => e (Sum.inl.inj z)
    rw [if_neg this, h]
    simp [e]
theorem take_snoc {α : Type} {l : List α} {i : Nat} {v : α} (h : l[i]? = some v) : l.take (i + 1) = l.take i ++ [v] := by
  rw [List.take_add_one, h]
  rfl
theorem all_map {α : Type} {f : α → Bool} : ∀ {l : List α}, (l.map f).all id = l.all f
  | [] => rfl
  | x :: l => by
    rw [List.map_cons, List.all_cons, List.all_cons, all_map (l := l)]
    rfl
theorem bare_yes {f : List Bool} {l : List Int} {z : Int} (h : (!flag f z) = true) : bare f (l ++ [z]) = bare f l ++ [z] := by
  unfold bare
  rw [List.filter_append, List.filter_cons, if_pos h]
  rfl
theorem bare_no {f : List Bool} {l : List Int} {z : Int} (h : ¬ (!flag f z) = true) : bare f (l ++ [z]) = bare f l := by
  unfold bare
  rw [List.filter_append, List.filter_cons, if_neg h]
  exact List.append_nil _
theorem bare_len {f : List Bool} {l : List Int} : (bare f l).length ≤ l.length := List.length_filter_le _ _
theorem nums_snoc {l : List Int} {z : Int} : l.map V.int ++ [V.int z] = (l ++ [z]).map V.int := by
  rw [List.map_append]
  rfl
theorem pick_at {l : List Int} {k : Int} (h0 : 0 ≤ k) (h1 : k < (l.length : Int)) : ∃ v ∈ l, atI (l.map V.int) k = some (.int v) := by
  obtain ⟨v, hv, e⟩ := atI_map (f := V.int) h0 h1
  exact ⟨v, List.mem_of_getElem? hv, e⟩
theorem mem02 {v : Int} (h : v ∈ [0, 0, 0, 1, 2]) : 0 ≤ v ∧ v ≤ 2 := by
  simp at h
  omega
theorem mem12 {v : Int} (h : v ∈ [0, 1, 1, 1, 2]) : 0 ≤ v ∧ v ≤ 2 := by
  simp at h
  omega
theorem Ok.sz3 {i : Nat} {r : Rw} (h : Ok i r) : r.sz ≤ 3 := by
  have := h.1
  have := h.2.2.2
  omega
theorem sum_le {m : Int} : ∀ {l : List Int}, (∀ x ∈ l, 0 ≤ x ∧ x ≤ m) → 0 ≤ l.sum ∧ l.sum ≤ m * (l.length : Int)
  | [], _ => by simp
  | x :: l, h => by
    have h1 := h x List.mem_cons_self
    have h2 := sum_le (l := l) fun y hy => h y (List.mem_cons_of_mem _ hy)
    rw [List.sum_cons, List.length_cons, Int.natCast_add, Int.mul_add]
    omega
theorem ixN_flag {n : Nat} {z : Int} (h0 : 0 ≤ z) (h1 : z < (n : Int)) : ixN n z = some z.toNat := by
  obtain ⟨k, rfl⟩ : ∃ k : Nat, z = (k : Int) := ⟨z.toNat, by omega⟩
  exact Evl.ixN_nat (by omega)
end NT
set_option Elab.async false
set_option linter.all false
set_option maxRecDepth 100000
set_option maxHeartbeats 4000000
/-! LWFast: steps that keep the goals small: ends are written out (no projections of written-out ends pile up), loops with unnamed ends. -/
namespace LW
open PySem PySem.Spec PyProof.Rows L2 TL
section
variable {σ : L2.St} {H : Hp} {n b c : L2.St → Hp → Prop} {r : VK} {t1 t2 : TS} {te : TE} {g : TG} {tc : TT}
theorem go_seqM (q : t1 ⟨t2 ⟨n, r, b, c⟩, r, b, c⟩ σ H) : tSeq t1 t2 ⟨n, r, b, c⟩ σ H := q
theorem go_nextM (q : n σ H) : tNext ⟨n, r, b, c⟩ σ H := q
theorem go_contM (q : c σ H) : tCont ⟨n, r, b, c⟩ σ H := q
theorem go_brkM (q : b σ H) : tBreak ⟨n, r, b, c⟩ σ H := q
theorem go_retM (q : te σ H r) : tRet te ⟨n, r, b, c⟩ σ H := q
theorem go_asgM (q : te σ H fun x H1 => g x σ H1 n) : tAsg te g ⟨n, r, b, c⟩ σ H := q
theorem go_cutM (M : L2.St → Hp → Prop) (h : t1 ⟨M, r, b, c⟩ σ H) (k : ∀ σ' H', M σ' H' → t2 ⟨n, r, b, c⟩ σ' H') : Evl.tCut t1 t2 ⟨n, r, b, c⟩ σ H := ⟨M, h, k⟩
theorem go_test {Q : Bool → Hp → Prop} (q : te σ H fun v H1 => ∃ b, v = .bl b ∧ Q b H1) : tTest te σ H Q := q
theorem go_rI0 {h : Int → Int → V} {i j : Int} {Q : VK} (q : Q (h i j) H) : rI0 h (.int i) (.int j) H Q := ⟨_, _, rfl, rfl, q⟩
theorem go_gcons {gs : TGs} {v : V} {vs : List V} {Q : L2.St → Hp → Prop} (q : g v σ H fun σ' H' => gs vs σ' H' Q) : gCons g gs (v :: vs) σ H Q := ⟨_, _, rfl, q⟩
theorem go_gnil {Q : L2.St → Hp → Prop} (q : Q σ H) : gNil [] σ H Q := ⟨rfl, q⟩
end
theorem go_op {r : R2} {ta tb : TE} {σ : L2.St} {H : Hp} {Q : VK} (q : ta σ H fun x H1 => tb σ H1 fun y H2 => r x y H2 Q) : tOp r ta tb σ H Q := q
theorem go_var {i : Nat} {v : V} {σ : L2.St} {H : Hp} {Q : VK} (e : σ[i]? = some (some v)) (q : Q v H) : tVar i σ H Q := ⟨v, e, q⟩
theorem go_rng1 {ta : TA} {σ : L2.St} {H : Hp} {R : L2.It → Hp → Prop} (q : ta σ H fun vs H1 => ∃ j : Int, vs = [.int j] ∧ -(2 ^ 62) ≤ j ∧ j < 2 ^ 62 ∧ R (Itr 0 j.toNat) H1) : iRng1 ta σ H R := q
theorem for_rangeQ {lo : Int} {n : Nat} {g : TG} {tb : TS} {D : Ends} {σ : L2.St} {H : Hp} (R : VK) (hR : D.rt = R) (Pv : Nat → L2.St → Hp → Prop) (h0 : Pv 0 σ H)
    (hs : ∀ (N X : L2.St → Hp → Prop) i σ H, i < n → Pv i σ H → (∀ σ' H', Pv (i + 1) σ' H' → N σ' H') → g (.int (lo + i)) σ H fun σ2 H2 => tb ⟨N, R, X, N⟩ σ2 H2) (hd : ∀ σ H, Pv n σ H → D.nx σ H) :
    ∃ W : Nat → Nat → L2.St → Hp → Prop, (∃ m, W 0 m σ H) ∧ ∀ i m σ H, W i m σ H →
      ((Itr lo n).stop i H ∧ D.nx σ H) ∨ ((Itr lo n).go i H ∧ ∃ N : L2.St → Hp → Prop, (∀ σ' H', N σ' H' → ∃ m', m' < m ∧ W (i + 1) m' σ' H') ∧ ∀ x H', (Itr lo n).yld i H x H' → g x σ H' fun σ2 H2 => tb { D with nx := N, ct := N, bk := D.nx } σ2 H2) := by
  subst hR
  exact for_range Pv h0 (fun i σ H hi hP => hs (Pv (i + 1)) D.nx i σ H hi hP fun _ _ h => h) hd
theorem for_listQ {K : PySem.W.Frag} {a : Addr} {xs : List V} {g : TG} {tb : TS} {D : Ends} {σ : L2.St} {H : Hp} (R : VK) (hR : D.rt = R) (Pv : Nat → L2.St → Hp → Prop) (h0 : Pv 0 σ H) (hl : ∀ i σ H, i ≤ xs.length → Pv i σ H → SqL K H a xs)
    (hs : ∀ (N X : L2.St → Hp → Prop) i x σ H, xs[i]? = some x → Pv i σ H → (∀ σ' H', Pv (i + 1) σ' H' → N σ' H') → g x σ H fun σ2 H2 => tb ⟨N, R, X, N⟩ σ2 H2) (hd : ∀ σ H, Pv xs.length σ H → D.nx σ H) :
    ∃ W : Nat → Nat → L2.St → Hp → Prop, (∃ m, W 0 m σ H) ∧ ∀ i m σ H, W i m σ H →
      ((Itl K a).stop i H ∧ D.nx σ H) ∨ ((Itl K a).go i H ∧ ∃ N : L2.St → Hp → Prop, (∀ σ' H', N σ' H' → ∃ m', m' < m ∧ W (i + 1) m' σ' H') ∧ ∀ x H', (Itl K a).yld i H x H' → g x σ H' fun σ2 H2 => tb { D with nx := N, ct := N, bk := D.nx } σ2 H2) := by
  subst hR
  exact for_list Pv h0 hl (fun i x σ H hi hP => hs (Pv (i + 1)) D.nx i x σ H hi hP fun _ _ h => h) hd
theorem for_tupQ {K : PySem.W.Frag} {a : Addr} {xs : List V} {g : TG} {tb : TS} {D : Ends} {σ : L2.St} {H : Hp} (R : VK) (hR : D.rt = R) (Pv : Nat → L2.St → Hp → Prop) (h0 : Pv 0 σ H) (hl : ∀ i σ H, i ≤ xs.length → Pv i σ H → SqT K H a xs)
    (hs : ∀ (N X : L2.St → Hp → Prop) i x σ H, xs[i]? = some x → Pv i σ H → (∀ σ' H', Pv (i + 1) σ' H' → N σ' H') → g x σ H fun σ2 H2 => tb ⟨N, R, X, N⟩ σ2 H2) (hd : ∀ σ H, Pv xs.length σ H → D.nx σ H) :
    ∃ W : Nat → Nat → L2.St → Hp → Prop, (∃ m, W 0 m σ H) ∧ ∀ i m σ H, W i m σ H →
      ((Itt K a).stop i H ∧ D.nx σ H) ∨ ((Itt K a).go i H ∧ ∃ N : L2.St → Hp → Prop, (∀ σ' H', N σ' H' → ∃ m', m' < m ∧ W (i + 1) m' σ' H') ∧ ∀ x H', (Itt K a).yld i H x H' → g x σ H' fun σ2 H2 => tb { D with nx := N, ct := N, bk := D.nx } σ2 H2) := by
  subst hR
  exact for_tup Pv h0 hl (fun i x σ H hi hP => hs (Pv (i + 1)) D.nx i x σ H hi hP fun _ _ h => h) hd
/-- a list over the signs of a text -/
theorem lc_strL {z : Str} {g : TG} {tt : TT} {te : TE} {vs : List Nat} {σ : L2.St} {H1 : Hp} {D : Addr} {Qd : Hp → Prop} (Pv : Nat → Hp → Prop) (h0 : Pv 0 (upd H1 D (.lst [])))
    (hs : ∀ i c H, (tl z)[i]? = some c → Pv i H → g (.str (sg c)) (wipe σ vs) H fun σ2 H2 => wipe σ2 vs = wipe σ vs ∧ tt σ2 H2 fun b H3 =>
      if b = true then te σ2 H3 fun y H4 => ∃ acc, H4 D = some (.lst acc) ∧ acc.length < sizeLine ∧ Pv (i + 1) (upd H4 D (.lst (acc ++ [y]))) else Pv (i + 1) H3) (hd : ∀ H, Pv (tl z).length H → Qd H) :
    ∃ W : Nat → Nat → Hp → Prop, (∃ m, W 0 m (upd H1 D (.lst []))) ∧ ∀ i m H, W i m H →
      ((Its z).stop i H ∧ Qd H) ∨ ((Its z).go i H ∧ ∃ Nx : Hp → Prop, (∀ H', Nx H' → ∃ m', m' < m ∧ W (i + 1) m' H') ∧ ∀ x H', (Its z).yld i H x H' → g x (wipe σ vs) H' fun σ2 H2 => wipe σ2 vs = wipe σ vs ∧ tt σ2 H2 fun b H3 =>
        if b = true then te σ2 H3 fun y H4 => ∃ acc, H4 D = some (.lst acc) ∧ acc.length < sizeLine ∧ Nx (upd H4 D (.lst (acc ++ [y]))) else Nx H3) := by
  have el : (tl z).length = z.cps.size := by simp
  refine ⟨fun i m H => m = (tl z).length - i ∧ i ≤ (tl z).length ∧ Pv i H, ⟨(tl z).length, by simp, Nat.zero_le _, h0⟩, ?_⟩
  rintro i m H ⟨rfl, hi, p⟩
  by_cases hlt : i < (tl z).length
  · refine .inr ⟨(show i < z.cps.size by omega), Pv (i + 1), fun H' p' => ⟨(tl z).length - (i + 1), by omega, rfl, hlt, p'⟩, fun x H' y => ?_⟩
    obtain ⟨rfl, c, hc, rfl⟩ := y
    exact hs i c _ (by rw [← hc]; simp) p
  · have e : i = (tl z).length := by omega
    subst e
    exact .inl ⟨Nat.le_of_eq el.symm, hd H p⟩
end LW
set_option Elab.async false
set_option linter.all false
set_option maxRecDepth 100000
/-! Flow15: flows on arcs: what is pushed along a way, what crosses a border: plain, no program in sight. -/
namespace FL
/-! ### sums -/
def sm (g : Nat → Int) : Nat → Int
  | 0 => 0
  | n + 1 => sm g n + g n
theorem sm_congr {g h : Nat → Int} : ∀ {n : Nat}, (∀ i, i < n → g i = h i) → sm g n = sm h n
  | 0, _ => rfl
  | n + 1, e => by
    show sm g n + g n = sm h n + h n
    rw [sm_congr fun i hi => e i (by omega), e n (by omega)]
theorem sm_zero {g : Nat → Int} {n : Nat} (h : ∀ i, i < n → g i = 0) : sm g n = 0 := by
  rw [sm_congr (h := fun _ => 0) h]
  clear h
  induction n with
  | zero => rfl
  | succ n ih =>
    show sm (fun _ => 0) n + 0 = 0
    rw [ih]
    rfl
theorem sm_add (g h : Nat → Int) : ∀ n, sm (fun i => g i + h i) n = sm g n + sm h n
  | 0 => rfl
  | n + 1 => by
    show sm (fun i => g i + h i) n + (g n + h n) = sm g n + g n + (sm h n + h n)
    rw [sm_add g h n]
    omega
theorem sm_neg (g : Nat → Int) : ∀ n, sm (fun i => - g i) n = - sm g n
  | 0 => rfl
  | n + 1 => by
    show sm (fun i => - g i) n + - g n = - (sm g n + g n)
    rw [sm_neg g n]
    omega
theorem sm_sub (g h : Nat → Int) (n : Nat) : sm (fun i => g i - h i) n = sm g n - sm h n := by
  have e := sm_add g (fun i => - h i) n
  rw [sm_neg] at e
  exact e
theorem sm_le {g h : Nat → Int} : ∀ {n : Nat}, (∀ i, i < n → g i ≤ h i) → sm g n ≤ sm h n
  | 0, _ => Int.le_refl _
  | n + 1, e => by
    have a := sm_le fun i hi => e i (Nat.lt_succ_of_lt hi)
    have b := e n (Nat.lt_succ_self n)
    show sm g n + g n ≤ sm h n + h n
    omega
theorem sm_nonneg {g : Nat → Int} {n : Nat} (h : ∀ i, i < n → 0 ≤ g i) : 0 ≤ sm g n := by
  have e := sm_le (g := fun _ => 0) h
  rw [sm_zero (g := fun _ => 0) (fun _ _ => rfl)] at e
  exact e
theorem sm_pos {g : Nat → Int} : ∀ {n : Nat}, (∀ i, i < n → 0 ≤ g i) → 0 < sm g n → ∃ i, i < n ∧ 0 < g i
  | 0, _, h => absurd h (by show ¬ (0 : Int) < 0; omega)
  | n + 1, p, h => by
    have b := p n (Nat.lt_succ_self n)
    by_cases e : 0 < g n
    · exact ⟨n, Nat.lt_succ_self n, e⟩
    · have h : 0 < sm g n + g n := h
      obtain ⟨i, hi, hg⟩ := sm_pos (fun i hi => p i (Nat.lt_succ_of_lt hi)) (by omega)
      exact ⟨i, Nat.lt_succ_of_lt hi, hg⟩
theorem sm_none {g : Nat → Int} {n : Nat} (p : ∀ i, i < n → 0 ≤ g i) (h : sm g n = 0) : ∀ i, i < n → g i = 0 := by
  induction n with
  | zero => intro i hi; omega
  | succ n ih =>
    have b := p n (Nat.lt_succ_self n)
    have c := sm_nonneg (g := g) fun i (hi : i < n) => p i (Nat.lt_succ_of_lt hi)
    have h : sm g n + g n = 0 := h
    intro i hi
    by_cases e : i = n
    · rw [e]
      omega
    · exact ih (fun i hi => p i (Nat.lt_succ_of_lt hi)) (by omega) i (by omega)
theorem sm_mem {g : Nat → Int} {n i : Nat} (p : ∀ i, i < n → 0 ≤ g i) (hi : i < n) : g i ≤ sm g n := by
  induction n with
  | zero => omega
  | succ n ih =>
    have b := p n (Nat.lt_succ_self n)
    have c := sm_nonneg (g := g) fun i (hi : i < n) => p i (Nat.lt_succ_of_lt hi)
    show g i ≤ sm g n + g n
    by_cases e : i = n
    · rw [e]
      omega
    · have := ih (fun i hi => p i (Nat.lt_succ_of_lt hi)) (by omega)
      omega
/-- one summand more or less -/
theorem sm_upd {g h : Nat → Int} {a : Nat} {d : Int} : ∀ {n : Nat}, a < n → h a = g a + d → (∀ i, i ≠ a → h i = g i) → sm h n = sm g n + d
  | 0, ha, _, _ => absurd ha (Nat.not_lt_zero _)
  | n + 1, ha, e, o => by
    show sm h n + h n = sm g n + g n + d
    by_cases k : a = n
    · subst k
      rw [e, sm_congr (g := h) (h := g) fun i hi => o i (by omega)]
      omega
    · rw [sm_upd (by omega) e o, o n (Ne.symm k)]
      omega
theorem sm_one {a : Nat} {x : Int} {n : Nat} (ha : a < n) : sm (fun i => if i = a then x else 0) n = x := by
  have e := sm_upd (g := fun _ => (0 : Int)) (h := fun i => if i = a then x else 0) (a := a) (d := x) ha (by simp) (fun i hi => if_neg hi)
  rw [sm_zero (g := fun _ => 0) (fun _ _ => rfl)] at e
  omega
theorem sm_swap (g : Nat → Nat → Int) (m : Nat) : ∀ n, sm (fun p => sm (fun i => g p i) m) n = sm (fun i => sm (fun p => g p i) n) m
  | 0 => (sm_zero fun _ _ => rfl).symm
  | n + 1 => by
    show sm (fun p => sm (fun i => g p i) m) n + sm (fun i => g n i) m = sm (fun i => sm (fun p => g p i) n + g n i) m
    rw [sm_swap g m n, ← sm_add]
/-! ### arcs and amounts -/
structure Ar where
  lo : Nat
  hi : Nat
  cap : Option Int
deriving Inhabited
def ar (as : List Ar) (i : Nat) : Ar := as.getD i default
/-- what leaves a point less what comes in -/
def div (as : List Ar) (f : Nat → Int) (p : Nat) : Int := sm (fun i => (if (ar as i).lo = p then f i else 0) - (if (ar as i).hi = p then f i else 0)) as.length
structure Bnd (as : List Ar) (f : Nat → Int) : Prop where
  pos : ∀ i, i < as.length → 0 ≤ f i
  cap : ∀ i, i < as.length → ∀ c, (ar as i).cap = some c → f i ≤ c
structure Flow (as : List Ar) (S T : Nat) (f : Nat → Int) : Prop extends Bnd as f where
  con : ∀ p, p ≠ S → p ≠ T → div as f p = 0
theorem div_zero {as : List Ar} {p : Nat} : div as (fun _ => 0) p = 0 := sm_zero fun i _ => by simp
theorem flow_zero {as : List Ar} {S T : Nat} (h : ∀ i, i < as.length → ∀ c, (ar as i).cap = some c → 0 ≤ c) : Flow as S T fun _ => 0 := ⟨⟨fun _ _ => Int.le_refl _, h⟩, fun _ _ _ => div_zero⟩
/-- what crosses a border -/
theorem cross {as : List Ar} {f : Nat → Int} {S T : Nat} (F : Flow as S T f) {R : Nat → Bool} (hS : R S = true) (hT : R T = false) {P : Nat} (hP : ∀ i, i < as.length → (ar as i).lo < P ∧ (ar as i).hi < P) (hSP : S < P) :
    div as f S = sm (fun i => (if R (ar as i).lo = true then f i else 0) - (if R (ar as i).hi = true then f i else 0)) as.length := by
  have e1 : sm (fun p => if R p = true then div as f p else 0) P = div as f S := by
    rw [← sm_one (a := S) (x := div as f S) hSP]
    refine sm_congr fun p _ => ?_
    by_cases e : p = S
    · rw [e, if_pos hS, if_pos rfl]
    · rw [if_neg e]
      by_cases k : R p = true
      · rw [if_pos k]
        refine F.con p e fun z => ?_
        rw [z, hT] at k
        cases k
      · rw [if_neg k]
  rw [← e1]
  have e2 : sm (fun p => if R p = true then div as f p else 0) P = sm (fun p => sm (fun i => if R p = true then (if (ar as i).lo = p then f i else 0) - (if (ar as i).hi = p then f i else 0) else 0) as.length) P := by
    refine sm_congr fun p _ => ?_
    by_cases k : R p = true
    · rw [if_pos k]
      exact sm_congr fun i _ => (if_pos k).symm
    · rw [if_neg k]
      exact (sm_zero fun i _ => if_neg k).symm
  rw [e2, sm_swap]
  refine sm_congr fun i hi => ?_
  obtain ⟨h1, h2⟩ := hP i hi
  have e3 : ∀ a, a < P → sm (fun p => if p = a then (if R a = true then f i else 0) else 0) P = if R a = true then f i else 0 := fun a ha => sm_one ha
  rw [← e3 _ h1, ← e3 _ h2, ← sm_sub]
  refine sm_congr fun p _ => ?_
  by_cases k : R p = true
  · rw [if_pos k]
    congr 1
    · by_cases z : (ar as i).lo = p
      · rw [if_pos z, if_pos z.symm, z, if_pos k]
      · rw [if_neg z, if_neg (Ne.symm z)]
    · by_cases z : (ar as i).hi = p
      · rw [if_pos z, if_pos z.symm, z, if_pos k]
      · rw [if_neg z, if_neg (Ne.symm z)]
  · rw [if_neg k]
    have a : ∀ b, (if p = b then (if R b = true then f i else 0) else 0) = (0 : Int) := fun b => by
      by_cases z : p = b
      · rw [if_pos z, ← z, if_neg k]
      · rw [if_neg z]
    rw [a, a]
    rfl
/-! ### a way on which more can be pushed -/
/-- a step passes -/
def pass (as : List Ar) (f : Nat → Int) (i : Nat) (fw : Bool) : Prop := if fw = true then (∀ c, (ar as i).cap = some c → f i < c) else 0 < f i
def endP (as : List Ar) (i : Nat) (fw : Bool) : Nat := if fw = true then (ar as i).hi else (ar as i).lo
def begP (as : List Ar) (i : Nat) (fw : Bool) : Nat := if fw = true then (ar as i).lo else (ar as i).hi
/-- a way, its last step first; po: in which order the points were met -/
inductive Pth (as : List Ar) (f : Nat → Int) (po : Nat → Nat) (S : Nat) : Nat → List (Nat × Bool) → Prop
  | nil : Pth as f po S S []
  | step {i : Nat} {fw : Bool} {st : List (Nat × Bool)} : Pth as f po S (begP as i fw) st → i < as.length → pass as f i fw → po (begP as i fw) < po (endP as i fw) → Pth as f po S (endP as i fw) ((i, fw) :: st)
/-- amounts changed along a way -/
def push (d : Int) : List (Nat × Bool) → (Nat → Int) → Nat → Int
  | [], f => f
  | (i, fw) :: st, f => push d st fun j => if j = i then (if fw = true then f j + d else f j - d) else f j
theorem push_div {as : List Ar} {f : Nat → Int} {po : Nat → Nat} {S : Nat} {d : Int} : ∀ {q : Nat} {st : List (Nat × Bool)}, Pth as f po S q st → ∀ (g : Nat → Int) (p : Nat), div as (push d st g) p = div as g p + (if p = S then d else 0) - (if p = q then d else 0) := by
  intro q st h
  induction h with
  | nil =>
    intro g p
    show div as g p = _
    omega
  | @step i fw st hp hi hpass hpo ih =>
    intro g p
    show div as (push d st fun j => if j = i then (if fw = true then g j + d else g j - d) else g j) p = _
    rw [ih]
    have key : div as (fun j => if j = i then (if fw = true then g j + d else g j - d) else g j) p = div as g p + (if p = begP as i fw then d else 0) - (if p = endP as i fw then d else 0) := by
      unfold div
      have u := sm_upd (n := as.length) (a := i) (d := (if p = begP as i fw then d else 0) - (if p = endP as i fw then d else 0)) (g := fun j => (if (ar as j).lo = p then g j else 0) - (if (ar as j).hi = p then g j else 0))
        (h := fun j => (if (ar as j).lo = p then (if j = i then (if fw = true then g j + d else g j - d) else g j) else 0) - (if (ar as j).hi = p then (if j = i then (if fw = true then g j + d else g j - d) else g j) else 0)) hi ?_ ?_
      · rw [u]
        omega
      · show (if (ar as i).lo = p then (if i = i then (if fw = true then g i + d else g i - d) else g i) else 0) - (if (ar as i).hi = p then (if i = i then (if fw = true then g i + d else g i - d) else g i) else 0) =
          (if (ar as i).lo = p then g i else 0) - (if (ar as i).hi = p then g i else 0) + ((if p = begP as i fw then d else 0) - (if p = endP as i fw then d else 0))
        rw [if_pos rfl]
        unfold begP endP
        cases fw
        · simp only [Bool.false_eq_true, if_false]
          by_cases a : (ar as i).lo = p
          · by_cases b : (ar as i).hi = p
            · rw [if_pos a, if_pos b, if_pos b.symm, if_pos a.symm, if_pos a, if_pos b]
              omega
            · rw [if_pos a, if_neg b, if_neg (Ne.symm b), if_pos a.symm, if_pos a, if_neg b]
              omega
          · by_cases b : (ar as i).hi = p
            · rw [if_neg a, if_pos b, if_pos b.symm, if_neg (Ne.symm a), if_neg a, if_pos b]
              omega
            · rw [if_neg a, if_neg b, if_neg (Ne.symm b), if_neg (Ne.symm a), if_neg a, if_neg b]
              omega
        · simp only [if_true]
          by_cases a : (ar as i).lo = p
          · by_cases b : (ar as i).hi = p
            · rw [if_pos a, if_pos b, if_pos b.symm, if_pos a.symm, if_pos a, if_pos b]
              omega
            · rw [if_pos a, if_neg b, if_neg (Ne.symm b), if_pos a.symm, if_pos a, if_neg b]
              omega
          · by_cases b : (ar as i).hi = p
            · rw [if_neg a, if_pos b, if_pos b.symm, if_neg (Ne.symm a), if_neg a, if_pos b]
              omega
            · rw [if_neg a, if_neg b, if_neg (Ne.symm b), if_neg (Ne.symm a), if_neg a, if_neg b]
              omega
      · intro j hj
        show (if (ar as j).lo = p then (if j = i then _ else g j) else 0) - (if (ar as j).hi = p then (if j = i then _ else g j) else 0) = _
        rw [if_neg hj]
    rw [key]
    omega
/-- the arcs of a way are unlike -/
theorem pth_low {as : List Ar} {f : Nat → Int} {po : Nat → Nat} {S : Nat} : ∀ {q : Nat} {st : List (Nat × Bool)}, Pth as f po S q st → ∀ s ∈ st, po (ar as s.1).lo ≤ po q ∧ po (ar as s.1).hi ≤ po q := by
  intro q st h
  induction h with
  | nil => intro s hs; cases hs
  | @step i fw st hp hi hpass hpo ih =>
    intro s hs
    rcases List.mem_cons.mp hs with hs | hs
    · subst hs
      unfold begP endP at hpo
      unfold endP
      cases fw
      · simp only [Bool.false_eq_true, if_false] at hpo ⊢
        exact ⟨Nat.le_refl _, Nat.le_of_lt hpo⟩
      · simp only [if_true] at hpo ⊢
        exact ⟨Nat.le_of_lt hpo, Nat.le_refl _⟩
    · have := ih s hs
      exact ⟨by omega, by omega⟩
theorem pth_fresh {as : List Ar} {f : Nat → Int} {po : Nat → Nat} {S i : Nat} {fw : Bool} {st : List (Nat × Bool)} (h : Pth as f po S (begP as i fw) st) (hpo : po (begP as i fw) < po (endP as i fw)) : ∀ s ∈ st, s.1 ≠ i := fun s hs e => by
  obtain ⟨a, b⟩ := pth_low h s hs
  rw [e] at a b
  unfold begP endP at hpo
  unfold begP at a b
  cases fw
  · simp only [Bool.false_eq_true, if_false] at hpo a b
    omega
  · simp only [if_true] at hpo a b
    omega
/-- room of a step -/
def Room (as : List Ar) (f : Nat → Int) (i : Nat) (fw : Bool) (d : Int) : Prop := if fw = true then (∀ c, (ar as i).cap = some c → d ≤ c - f i) else d ≤ f i
theorem push_far {d : Int} : ∀ {st : List (Nat × Bool)} {f : Nat → Int} {j : Nat}, (∀ s ∈ st, s.1 ≠ j) → push d st f j = f j
  | [], _, _, _ => rfl
  | (i, fw) :: st, f, j, h => by
    show push d st _ j = f j
    rw [push_far fun s hs => h s (List.mem_cons_of_mem _ hs)]
    exact if_neg (Ne.symm (h (i, fw) List.mem_cons_self))
theorem push_at {as : List Ar} {f : Nat → Int} {po : Nat → Nat} {S : Nat} {d : Int} : ∀ {q : Nat} {st : List (Nat × Bool)}, Pth as f po S q st → ∀ (g : Nat → Int) (j : Nat), (push d st g j = g j ∧ ∀ s ∈ st, s.1 ≠ j) ∨ ∃ fw, (j, fw) ∈ st ∧ push d st g j = if fw = true then g j + d else g j - d := by
  intro q st h
  induction h with
  | nil => intro g j; exact .inl ⟨rfl, fun s hs => by cases hs⟩
  | @step i fw st hp hi hpass hpo ih =>
    intro g j
    have fr := pth_fresh hp hpo
    by_cases e : j = i
    · subst e
      refine .inr ⟨fw, List.mem_cons_self, ?_⟩
      show push d st _ j = _
      rw [push_far fr]
      exact if_pos rfl
    · have e2 : push d ((i, fw) :: st) g j = push d st (fun j => if j = i then (if fw = true then g j + d else g j - d) else g j) j := rfl
      rw [e2]
      rcases ih (fun j => if j = i then (if fw = true then g j + d else g j - d) else g j) j with ⟨a, b⟩ | ⟨w, a, b⟩
      · refine .inl ⟨by rw [a]; exact if_neg e, fun s hs => ?_⟩
        rcases List.mem_cons.mp hs with hs | hs
        · rw [hs]
          exact Ne.symm e
        · exact b s hs
      · refine .inr ⟨w, List.mem_cons_of_mem _ a, ?_⟩
        rw [b, if_neg e]
/-- more is pushed: a flow again, greater by d -/
theorem push_flow {as : List Ar} {f : Nat → Int} {po : Nat → Nat} {S T : Nat} {d : Int} {st : List (Nat × Bool)} (F : Flow as S T f) (h : Pth as f po S T st) (hd : 0 ≤ d) (hr : ∀ s ∈ st, Room as f s.1 s.2 d) (hST : S ≠ T) : Flow as S T (push d st f) ∧ div as (push d st f) S = div as f S + d := by
  refine ⟨⟨⟨fun i hi => ?_, fun i hi c hc => ?_⟩, fun p hp hq => ?_⟩, ?_⟩
  · rcases push_at (d := d) h f i with ⟨a, _⟩ | ⟨fw, a, b⟩
    · rw [a]
      exact F.pos i hi
    · rw [b]
      have r := hr _ a
      have := F.pos i hi
      unfold Room at r
      cases fw
      · simp only [Bool.false_eq_true, if_false] at r ⊢
        omega
      · simp only [if_true] at r ⊢
        omega
  · rcases push_at (d := d) h f i with ⟨a, _⟩ | ⟨fw, a, b⟩
    · rw [a]
      exact F.cap i hi c hc
    · rw [b]
      have r := hr _ a
      have := F.cap i hi c hc
      unfold Room at r
      cases fw
      · simp only [Bool.false_eq_true, if_false] at r ⊢
        omega
      · simp only [if_true] at r ⊢
        have := r c hc
        omega
  · rw [push_div h, F.con p hp hq, if_neg hp, if_neg hq]
    omega
  · rw [push_div h, if_pos rfl, if_neg hST]
    omega
end FL
set_option Elab.async false
set_option linter.all false
set_option maxRecDepth 100000
/-! K15Plain: the arcs of a net, greatest flows and least sets: no program in sight. -/
namespace NF
open PySem PySem.Spec PyProof.Rows L2 TL LW NT FL
/-! ### what stands above -/
/-- flags set -/
def sets (b : List Bool) (l : List Int) : List Bool := l.foldl (fun b (o : Int) => b.set o.toNat true) b
theorem sets_len : ∀ (l : List Int) (b : List Bool), (sets b l).length = b.length
  | [], _ => rfl
  | o :: l, b => by
    show (sets (b.set o.toNat true) l).length = _
    rw [sets_len l, List.length_set]
theorem set_flag {b : List Bool} {i : Nat} {o : Int} (h0 : 0 ≤ o) (hi : i < b.length) : flag (b.set i true) o = (flag b o || decide (o = (i : Int))) := by
  unfold flag
  rw [List.getD_eq_getElem?_getD, List.getD_eq_getElem?_getD, List.getElem?_set]
  by_cases e : o = (i : Int)
  · subst e
    rw [if_pos (by omega), if_pos hi]
    simp
  · rw [if_neg (by omega), decide_eq_false e, Bool.or_false]
theorem sets_flag : ∀ {l : List Int} {b : List Bool} {o : Int}, 0 ≤ o → (∀ x ∈ l, 0 ≤ x ∧ x < (b.length : Int)) → flag (sets b l) o = (flag b o || decide (o ∈ l))
  | [], b, o, _, _ => by
    show flag b o = _
    simp
  | x :: l, b, o, h0, h => by
    obtain ⟨x0, x1⟩ := h x List.mem_cons_self
    show flag (sets (b.set x.toNat true) l) o = _
    rw [sets_flag h0 fun y hy => by rw [List.length_set]; exact h y (List.mem_cons_of_mem _ hy), set_flag h0 (by omega), Bool.or_assoc]
    congr 1
    rw [Bool.eq_iff_iff, Bool.or_eq_true, decide_eq_true_eq, decide_eq_true_eq, decide_eq_true_eq, List.mem_cons, Int.toNat_of_nonneg x0]
/-- node by node from above -/
def dn (rs : List Rw) : Nat → List Bool → List Bool
  | 0, b => b
  | n + 1, b => dn rs n (match rs[n]? with | some r => if flag b (n : Int) = true then sets b r.ops else b | none => b)
def step1 (rs : List Rw) (n : Nat) (b : List Bool) : List Bool := match rs[n]? with | some r => if flag b (n : Int) = true then sets b r.ops else b | none => b
theorem dn_succ (rs : List Rw) (n : Nat) (b : List Bool) : dn rs (n + 1) b = dn rs n (step1 rs n b) := rfl
theorem step1_len {rs : List Rw} {n : Nat} {b : List Bool} : (step1 rs n b).length = b.length := by
  unfold step1
  cases rs[n]? with
  | none => rfl
  | some r =>
    show (if flag b (n : Int) = true then sets b r.ops else b).length = _
    split
    · exact sets_len _ _
    · rfl
theorem dn_len {rs : List Rw} : ∀ {n : Nat} {b : List Bool}, (dn rs n b).length = b.length
  | 0, _ => rfl
  | n + 1, b => by
    rw [dn_succ, dn_len, step1_len]
theorem step1_mono {rs : List Rw} (w : WF rs) {n : Nat} {b : List Bool} (hb : b.length = rs.length) {o : Int} (h0 : 0 ≤ o) (h : flag b o = true) : flag (step1 rs n b) o = true := by
  unfold step1
  cases e : rs[n]? with
  | none => exact h
  | some r =>
    show flag (if flag b (n : Int) = true then sets b r.ops else b) o = true
    have hn := (List.getElem?_eq_some_iff.mp e).1
    split
    · rw [sets_flag h0 fun x hx => by
        have := (w n r e).2.1 x hx
        exact ⟨this.1, by omega⟩, h]
      rfl
    · exact h
theorem dn_mono {rs : List Rw} (w : WF rs) : ∀ {n : Nat} {b : List Bool}, b.length = rs.length → ∀ {o : Int}, 0 ≤ o → flag b o = true → flag (dn rs n b) o = true
  | 0, _, _, _, _, h => h
  | n + 1, b, hb, o, h0, h => by
    rw [dn_succ]
    exact dn_mono w (by rw [step1_len, hb]) h0 (step1_mono w hb h0 h)
/-- nodes at or above n aren't touched any more -/
theorem dn_far {rs : List Rw} (w : WF rs) : ∀ {n : Nat} {b : List Bool}, b.length = rs.length → ∀ {o : Int}, (n : Int) ≤ o + 1 → 0 ≤ o → flag (dn rs n b) o = flag b o
  | 0, _, _, _, _, _ => rfl
  | n + 1, b, hb, o, hn, h0 => by
    rw [dn_succ, dn_far w (by rw [step1_len, hb]) (by omega) h0]
    unfold step1
    cases e : rs[n]? with
    | none => rfl
    | some r =>
      show flag (if flag b (n : Int) = true then sets b r.ops else b) o = flag b o
      have hn2 := (List.getElem?_eq_some_iff.mp e).1
      split
      · rw [sets_flag h0 fun x hx => by
          have := (w n r e).2.1 x hx
          exact ⟨this.1, by omega⟩]
        have : ¬ o ∈ r.ops := fun hx => by
          have := (w n r e).2.1 o hx
          omega
        rw [decide_eq_false this, Bool.or_false]
      · rfl
/-- what is above has its operands above -/
theorem dn_closed {rs : List Rw} (w : WF rs) : ∀ {n : Nat} {b : List Bool}, b.length = rs.length → ∀ {m : Nat} {r : Rw} {o : Int}, m < n → rs[m]? = some r → flag (dn rs n b) (m : Int) = true → o ∈ r.ops → flag (dn rs n b) o = true
  | 0, _, _, _, _, _, h, _, _, _ => absurd h (Nat.not_lt_zero _)
  | n + 1, b, hb, m, r, o, hm, e, h, ho => by
    have h1 := (w m r e).2.1 o ho
    rw [dn_succ] at h ⊢
    have hb2 : (step1 rs n b).length = rs.length := by rw [step1_len, hb]
    by_cases k : m = n
    · subst k
      rw [dn_far w hb2 (by omega) (by omega)] at h
      have hm2 := (List.getElem?_eq_some_iff.mp e).1
      refine dn_mono w hb2 h1.1 ?_
      unfold step1 at h ⊢
      rw [e] at h ⊢
      have h : flag (if flag b (m : Int) = true then sets b r.ops else b) (m : Int) = true := h
      show flag (if flag b (m : Int) = true then sets b r.ops else b) o = true
      by_cases q : flag b (m : Int) = true
      · rw [if_pos q, sets_flag h1.1 fun x hx => by
          have := (w m r e).2.1 x hx
          exact ⟨this.1, by omega⟩, decide_eq_true ho, Bool.or_true]
      · rw [if_neg q] at h
        exact absurd h q
    · exact dn_closed w hb2 (by omega) e h ho
/-- the wanted nodes' flags -/
def wst (rs : List Rw) (ws : List Int) : List Bool := sets (List.replicate rs.length false) ws
def abv (rs : List Rw) (ws : List Int) : List Bool := dn rs rs.length (wst rs ws)
theorem wst_len {rs : List Rw} {ws : List Int} : (wst rs ws).length = rs.length := by
  unfold wst
  rw [sets_len, List.length_replicate]
theorem abv_len {rs : List Rw} {ws : List Int} : (abv rs ws).length = rs.length := by
  unfold abv
  rw [dn_len, wst_len]
def InR (rs : List Rw) (l : List Int) : Prop := ∀ x ∈ l, 0 ≤ x ∧ x < (rs.length : Int)
theorem flag_rep {n : Nat} {o : Int} : flag (List.replicate n false) o = false := by
  unfold flag
  rw [List.getD_eq_getElem?_getD, List.getElem?_replicate]
  split <;> rfl
theorem wst_flag {rs : List Rw} {ws : List Int} (h : InR rs ws) {o : Int} (h0 : 0 ≤ o) : flag (wst rs ws) o = decide (o ∈ ws) := by
  unfold wst
  rw [sets_flag h0 fun x hx => by rw [List.length_replicate]; exact h x hx, flag_rep, Bool.false_or]
theorem abv_want {rs : List Rw} (w : WF rs) {ws : List Int} (h : InR rs ws) {o : Int} (ho : o ∈ ws) : flag (abv rs ws) o = true := dn_mono w wst_len (h o ho).1 (by rw [wst_flag h (h o ho).1]; exact decide_eq_true ho)
theorem abv_ops {rs : List Rw} (w : WF rs) {ws : List Int} {m : Nat} {r : Rw} {o : Int} (e : rs[m]? = some r) (h : flag (abv rs ws) (m : Int) = true) (ho : o ∈ r.ops) : flag (abv rs ws) o = true := dn_closed w wst_len (List.getElem?_eq_some_iff.mp e).1 e h ho
/-! ### living nodes -/
def bar (rs : List Rw) (o : Int) : Bool := flag (flags rs []) o
def liv (rs : List Rw) (ws : List Int) (n : Int) : Bool := flag (abv rs ws) n && !bar rs n
theorem flag_lt {b : List Bool} {o : Int} (h0 : 0 ≤ o) (h : flag b o = true) : o < (b.length : Int) := by
  unfold flag at h
  rw [List.getD_eq_getElem?_getD] at h
  cases e : b[o.toNat]? with
  | none =>
    rw [e] at h
    cases h
  | some x =>
    have := (List.getElem?_eq_some_iff.mp e).1
    omega
theorem bar_at {rs : List Rw} (w : WF rs) {i : Nat} {r : Rw} (e : rs[i]? = some r) : bar rs (i : Int) = (!r.src && r.ops.all (bar rs)) := by
  unfold bar
  rw [flags_at w e]
  unfold mk1
  simp
/-- what is made of nothing is made of anything -/
theorem bar_made {rs : List Rw} (w : WF rs) {D : List Int} : ∀ {i : Nat}, bar rs (i : Int) = true → flag (flags rs D) (i : Int) = true := by
  intro i
  induction i using Nat.strongRecOn with
  | _ i ih =>
    intro h
    have hl := flag_lt (Int.natCast_nonneg i) h
    rw [flags_len] at hl
    have e : rs[i]? = some rs[i] := List.getElem?_eq_getElem (by omega)
    rw [bar_at w e, Bool.and_eq_true] at h
    rw [flags_at w e]
    unfold mk1
    rw [h.1, Bool.true_and, Bool.or_eq_true]
    refine .inr (List.all_eq_true.mpr fun o ho => ?_)
    obtain ⟨o0, o1⟩ := (w i _ e).2.1 o ho
    have k := ih o.toNat (by omega) (by rw [Int.toNat_of_nonneg o0]; exact List.all_eq_true.mp h.2 o ho)
    rw [Int.toNat_of_nonneg o0] at k
    exact k
/-- an operand of a living node that is not bare lives -/
theorem liv_ops {rs : List Rw} (w : WF rs) {ws : List Int} {m : Nat} {r : Rw} {o : Int} (e : rs[m]? = some r) (h : liv rs ws (m : Int) = true) (ho : o ∈ r.ops) : liv rs ws o = !bar rs o := by
  unfold liv at h ⊢
  rw [Bool.and_eq_true] at h
  rw [abv_ops w e h.1 ho, Bool.true_and]
/-- the living nodes -/
def lives (rs : List Rw) (ws : List Int) : List Nat := (List.range rs.length).filter fun (n : Nat) => liv rs ws (n : Int)
/-! ### arcs -/
/-- a node's operands that live, rising -/
def sops (rs : List Rw) (r : Rw) : List Nat := (List.range rs.length).filter fun (k : Nat) => decide ((k : Int) ∈ r.ops)
def blk (rs : List Rw) (ws : List Int) (n : Nat) : List Ar := match rs[n]? with
  | none => []
  | some r => if liv rs ws (n : Int) = true then
      ⟨2 * n, 2 * n + 1, some r.sz⟩ :: ((if r.src = true then [⟨2 * rs.length, 2 * n, none⟩] else []) ++ (((sops rs r).filter fun (k : Nat) => liv rs ws (k : Int)).map fun k => ⟨2 * k + 1, 2 * n, none⟩) ++ (if (n : Int) ∈ ws then [⟨2 * n + 1, 2 * rs.length + 1, none⟩] else []))
    else []
def arcs (rs : List Rw) (ws : List Int) : List Ar := (List.range rs.length).flatMap (blk rs ws)
/-- what an arc is -/
inductive Arc (rs : List Rw) (ws : List Int) (a : Ar) : Prop
  | node {n : Nat} {r : Rw} : rs[n]? = some r → liv rs ws (n : Int) = true → a = ⟨2 * n, 2 * n + 1, some r.sz⟩ → Arc rs ws a
  | src {n : Nat} {r : Rw} : rs[n]? = some r → liv rs ws (n : Int) = true → r.src = true → a = ⟨2 * rs.length, 2 * n, none⟩ → Arc rs ws a
  | op {n k : Nat} {r : Rw} : rs[n]? = some r → liv rs ws (n : Int) = true → (k : Int) ∈ r.ops → liv rs ws (k : Int) = true → k < n → a = ⟨2 * k + 1, 2 * n, none⟩ → Arc rs ws a
  | want {n : Nat} {r : Rw} : rs[n]? = some r → liv rs ws (n : Int) = true → (n : Int) ∈ ws → a = ⟨2 * n + 1, 2 * rs.length + 1, none⟩ → Arc rs ws a
theorem mem_sops {rs : List Rw} (w : WF rs) {n : Nat} {r : Rw} (e : rs[n]? = some r) {k : Nat} : k ∈ sops rs r ↔ (k : Int) ∈ r.ops := by
  unfold sops
  rw [List.mem_filter, decide_eq_true_eq, List.mem_range]
  refine ⟨fun h => h.2, fun h => ⟨?_, h⟩⟩
  have := (w n r e).2.1 _ h
  have := (List.getElem?_eq_some_iff.mp e).1
  omega
theorem mem_blk {rs : List Rw} (w : WF rs) {ws : List Int} {n : Nat} {a : Ar} (h : a ∈ blk rs ws n) : Arc rs ws a := by
  unfold blk at h
  cases e : rs[n]? with
  | none =>
    rw [e] at h
    cases h
  | some r =>
    rw [e] at h
    by_cases l : liv rs ws (n : Int) = true
    · have h : a ∈ (if liv rs ws (n : Int) = true then _ else []) := h
      rw [if_pos l] at h
      rcases List.mem_cons.mp h with h | h
      · exact .node e l h
      · rcases List.mem_append.mp h with h | h
        · rcases List.mem_append.mp h with h | h
          · by_cases s : r.src = true
            · rw [if_pos s, List.mem_singleton] at h
              exact .src e l s h
            · rw [if_neg s] at h
              cases h
          · obtain ⟨k, hk, rfl⟩ := List.mem_map.mp h
            rw [List.mem_filter] at hk
            have ho := (mem_sops w e).mp hk.1
            have := (w n r e).2.1 _ ho
            exact .op e l ho hk.2 (by omega) rfl
        · by_cases s : (n : Int) ∈ ws
          · rw [if_pos s, List.mem_singleton] at h
            exact .want e l s h
          · rw [if_neg s] at h
            cases h
    · have h : a ∈ (if liv rs ws (n : Int) = true then _ else []) := h
      rw [if_neg l] at h
      cases h
theorem mem_arcs {rs : List Rw} (w : WF rs) {ws : List Int} {a : Ar} (h : a ∈ arcs rs ws) : Arc rs ws a := by
  unfold arcs at h
  obtain ⟨n, _, h⟩ := List.mem_flatMap.mp h
  exact mem_blk w h
theorem arc_mem {rs : List Rw} (w : WF rs) {ws : List Int} {a : Ar} (h : Arc rs ws a) : a ∈ arcs rs ws := by
  have key : ∀ {n : Nat} {r : Rw}, rs[n]? = some r → a ∈ blk rs ws n → a ∈ arcs rs ws := fun {n r} e k => List.mem_flatMap.mpr ⟨n, List.mem_range.mpr (List.getElem?_eq_some_iff.mp e).1, k⟩
  have open1 : ∀ {n : Nat} {r : Rw}, rs[n]? = some r → liv rs ws (n : Int) = true → blk rs ws n = ⟨2 * n, 2 * n + 1, some r.sz⟩ :: ((if r.src = true then [⟨2 * rs.length, 2 * n, none⟩] else []) ++ (((sops rs r).filter fun (k : Nat) => liv rs ws (k : Int)).map fun k => ⟨2 * k + 1, 2 * n, none⟩) ++ (if (n : Int) ∈ ws then [⟨2 * n + 1, 2 * rs.length + 1, none⟩] else [])) := fun {n r} e l => by
    unfold blk
    rw [e]
    exact if_pos l
  rcases h with ⟨e, l, rfl⟩ | ⟨e, l, s, rfl⟩ | ⟨e, l, o, l2, _, rfl⟩ | ⟨e, l, s, rfl⟩
  · exact key e (by rw [open1 e l]; exact List.mem_cons_self)
  · refine key e ?_
    rw [open1 e l, if_pos s]
    exact List.mem_cons_of_mem _ (List.mem_append_left _ (List.mem_append_left _ List.mem_cons_self))
  · refine key e ?_
    rw [open1 e l]
    refine List.mem_cons_of_mem _ (List.mem_append_left _ (List.mem_append_right _ (List.mem_map.mpr ⟨_, List.mem_filter.mpr ⟨(mem_sops w e).mpr o, l2⟩, rfl⟩)))
  · refine key e ?_
    rw [open1 e l, if_pos s]
    exact List.mem_cons_of_mem _ (List.mem_append_right _ List.mem_cons_self)
theorem ar_mem {as : List Ar} {i : Nat} (h : i < as.length) : ar as i ∈ as := by
  unfold ar
  rw [List.getD_eq_getElem?_getD, List.getElem?_eq_getElem h]
  exact List.getElem_mem h
theorem mem_ar {as : List Ar} {a : Ar} (h : a ∈ as) : ∃ i, i < as.length ∧ ar as i = a := by
  obtain ⟨i, hi, e⟩ := List.getElem_of_mem h
  refine ⟨i, hi, ?_⟩
  unfold ar
  rw [List.getD_eq_getElem?_getD, List.getElem?_eq_getElem hi]
  exact e
/-! ### sums over arcs -/
theorem sm_list {g : Ar → Int} : ∀ (as : List Ar), sm (fun i => g (ar as i)) as.length = (as.map g).sum := fun as => by
  have key : ∀ (n : Nat), n ≤ as.length → sm (fun i => g (ar as i)) n = ((as.take n).map g).sum := fun n => by
    induction n with
    | zero => intro _; rfl
    | succ n ih =>
      intro h
      have e : as[n]? = some as[n] := List.getElem?_eq_getElem (by omega)
      show sm (fun i => g (ar as i)) n + g (ar as n) = _
      rw [ih (by omega), List.take_add_one, e, List.map_append, List.sum_append]
      have : ar as n = as[n] := by
        unfold ar
        rw [List.getD_eq_getElem?_getD, e]
        rfl
      rw [this]
      simp
  rw [key as.length (Nat.le_refl _), List.take_length]
theorem sum_flat {α : Type} {g : Ar → Int} {h : α → List Ar} : ∀ (l : List α), ((l.flatMap h).map g).sum = (l.map fun x => ((h x).map g).sum).sum
  | [] => rfl
  | x :: l => by
    rw [List.flatMap_cons, List.map_append, List.sum_append, sum_flat l, List.map_cons, List.sum_cons]
theorem sum_zero {α : Type} {g : α → Int} : ∀ {l : List α}, (∀ x ∈ l, g x = 0) → (l.map g).sum = 0
  | [], _ => rfl
  | x :: l, h => by
    rw [List.map_cons, List.sum_cons, h x List.mem_cons_self, sum_zero fun y hy => h y (List.mem_cons_of_mem _ hy)]
    rfl
theorem sum_filter {α : Type} {p : α → Bool} {g : α → Int} : ∀ (l : List α), ((l.filter p).map g).sum = (l.map fun x => if p x = true then g x else 0).sum
  | [] => rfl
  | x :: l => by
    rw [List.filter_cons, List.map_cons, List.sum_cons, ← sum_filter l]
    by_cases h : p x = true
    · rw [if_pos h, if_pos h, List.map_cons, List.sum_cons]
    · rw [if_neg h, if_neg h]
      omega
theorem sum_le_sum {α : Type} {g h : α → Int} : ∀ {l : List α}, (∀ x ∈ l, g x ≤ h x) → (l.map g).sum ≤ (l.map h).sum
  | [], _ => Int.le_refl _
  | x :: l, k => by
    have a := k x List.mem_cons_self
    have b := sum_le_sum fun y hy => k y (List.mem_cons_of_mem _ hy)
    rw [List.map_cons, List.sum_cons, List.map_cons, List.sum_cons]
    omega
def szN (rs : List Rw) (n : Nat) : Int := match rs[n]? with | some r => r.sz | none => 0
/-- the sized arcs of a border, by nodes -/
def wt (R : Nat → Bool) (a : Ar) : Int := if R a.lo = true ∧ R a.hi = false then a.cap.getD 0 else 0
theorem sum_arcs {rs : List Rw} {ws : List Int} (R : Nat → Bool) : ((arcs rs ws).map (wt R)).sum = ((lives rs ws).map fun n => if R (2 * n) = true ∧ R (2 * n + 1) = false then szN rs n else 0).sum := by
  unfold arcs lives
  rw [sum_flat, sum_filter]
  refine congrArg List.sum (List.map_congr_left fun n hn => ?_)
  have hn := List.mem_range.mp hn
  have e : rs[n]? = some rs[n] := List.getElem?_eq_getElem hn
  unfold blk
  rw [e]
  by_cases l : liv rs ws (n : Int) = true
  · show ((if liv rs ws (n : Int) = true then _ else []).map (wt R)).sum = _
    rw [if_pos l, if_pos l, List.map_cons, List.sum_cons, sum_zero (l := _ ++ _ ++ _)]
    · unfold wt szN
      rw [e]
      simp
    · intro a ha
      have : a.cap = none := by
        rcases List.mem_append.mp ha with ha | ha
        · rcases List.mem_append.mp ha with ha | ha
          · split at ha
            · rw [List.mem_singleton] at ha
              rw [ha]
            · cases ha
          · obtain ⟨k, _, rfl⟩ := List.mem_map.mp ha
            rfl
        · split at ha
          · rw [List.mem_singleton] at ha
            rw [ha]
          · cases ha
      unfold wt
      rw [this]
      split <;> rfl
  · show ((if liv rs ws (n : Int) = true then _ else []).map (wt R)).sum = _
    rw [if_neg l, if_neg l]
    rfl
/-! ### flows and sets -/
def SS (rs : List Rw) : Nat := 2 * rs.length
def TT (rs : List Rw) : Nat := 2 * rs.length + 1
theorem arcs_pts {rs : List Rw} (w : WF rs) {ws : List Int} : ∀ i, i < (arcs rs ws).length → (ar (arcs rs ws) i).lo < 2 * rs.length + 2 ∧ (ar (arcs rs ws) i).hi < 2 * rs.length + 2 := fun i hi => by
  have lt : ∀ {n : Nat} {r : Rw}, rs[n]? = some r → n < rs.length := fun e => (List.getElem?_eq_some_iff.mp e).1
  rcases mem_arcs w (ar_mem hi) with ⟨e, l, h⟩ | ⟨e, l, s, h⟩ | ⟨e, l, o, l2, k, h⟩ | ⟨e, l, s, h⟩
  all_goals
    have := lt e
    rw [h]
    constructor <;> simp <;> omega
/-- the wanted nodes are made of D -/
def Valid (rs : List Rw) (ws D : List Int) : Prop := ∀ x ∈ ws, flag (flags rs D) x = true
/-- the points that D does not cut off -/
def RD (rs : List Rw) (ws D : List Int) (p : Nat) : Bool :=
  if p = SS rs then true else if p = TT rs then false else if p % 2 = 1 then liv rs ws ((p / 2 : Nat) : Int) && !flag (flags rs D) ((p / 2 : Nat) : Int)
  else liv rs ws ((p / 2 : Nat) : Int) && (match rs[p / 2]? with | some r => r.src || r.ops.any fun o => !flag (flags rs D) o | none => false)
theorem RD_S {rs : List Rw} {ws D : List Int} : RD rs ws D (SS rs) = true := if_pos rfl
theorem RD_T {rs : List Rw} {ws D : List Int} : RD rs ws D (TT rs) = false := by
  unfold RD
  rw [if_neg (by unfold SS TT; omega), if_pos rfl]
theorem RD_out {rs : List Rw} {ws D : List Int} {n : Nat} (h : n < rs.length) : RD rs ws D (2 * n + 1) = (liv rs ws (n : Int) && !flag (flags rs D) (n : Int)) := by
  unfold RD SS TT
  rw [if_neg (by omega), if_neg (by omega), if_pos (by omega), show (2 * n + 1) / 2 = n from by omega]
theorem RD_in {rs : List Rw} {ws D : List Int} {n : Nat} {r : Rw} (e : rs[n]? = some r) : RD rs ws D (2 * n) = (liv rs ws (n : Int) && (r.src || r.ops.any fun o => !flag (flags rs D) o)) := by
  have h := (List.getElem?_eq_some_iff.mp e).1
  unfold RD SS TT
  rw [if_neg (by omega), if_neg (by omega), if_neg (by omega), show 2 * n / 2 = n from by omega, e]
theorem any_not {α : Type} {p : α → Bool} : ∀ {l : List α}, (l.any fun o => !p o) = !l.all p
  | [] => rfl
  | x :: l => by
    rw [List.any_cons, List.all_cons, any_not, Bool.not_and]
/-- no flow is greater than what a set that makes all wanted nodes weighs -/
theorem weak {rs : List Rw} (w : WF rs) {ws D : List Int} {f : Nat → Int} (F : Flow (arcs rs ws) (SS rs) (TT rs) f) (V : Valid rs ws D) :
    div (arcs rs ws) f (SS rs) ≤ ((lives rs ws).map fun (n : Nat) => if (n : Int) ∈ D then szN rs n else 0).sum := by
  have lt : ∀ {n : Nat} {r : Rw}, rs[n]? = some r → n < rs.length := fun e => (List.getElem?_eq_some_iff.mp e).1
  have c := cross F (R := RD rs ws D) RD_S RD_T (arcs_pts w) (by unfold SS; omega)
  rw [c]
  have s1 : sm (fun i => (if RD rs ws D (ar (arcs rs ws) i).lo = true then f i else 0) - (if RD rs ws D (ar (arcs rs ws) i).hi = true then f i else 0)) (arcs rs ws).length ≤ sm (fun i => wt (RD rs ws D) (ar (arcs rs ws) i)) (arcs rs ws).length := by
    refine sm_le fun i hi => ?_
    have p := F.pos i hi
    unfold wt
    cases h1 : RD rs ws D (ar (arcs rs ws) i).lo with
    | false =>
      simp only [Bool.false_eq_true, if_false, false_and]
      split <;> omega
    | true =>
      rw [if_pos rfl]
      cases h2 : RD rs ws D (ar (arcs rs ws) i).hi with
      | true =>
        rw [if_pos rfl, if_neg (by simp)]
        omega
      | false =>
        rw [if_neg (by decide), if_pos ⟨rfl, rfl⟩]
        have cp := F.cap i hi
        rcases mem_arcs w (ar_mem hi) with ⟨e, l, h⟩ | ⟨e, l, s, h⟩ | ⟨e, l, o, l2, k, h⟩ | ⟨e, l, s, h⟩
        · rw [h] at cp ⊢
          have := cp _ rfl
          show f i - 0 ≤ _
          simp
          exact this
        · rw [h] at h2
          have h2 : RD rs ws D (2 * _) = false := h2
          rw [RD_in e, l, s] at h2
          simp at h2
        · rw [h] at h1 h2
          have h1 : RD rs ws D (2 * _ + 1) = true := h1
          have h2 : RD rs ws D (2 * _) = false := h2
          rw [RD_out (by have := lt e; omega), Bool.and_eq_true] at h1
          rw [RD_in e, l, Bool.true_and, Bool.or_eq_false_iff] at h2
          have := List.any_eq_false.mp h2.2 _ o
          rw [h1.2] at this
          exact absurd rfl this
        · rw [h] at h1
          have h1 : RD rs ws D (2 * _ + 1) = true := h1
          rw [RD_out (lt e), V _ s] at h1
          simp at h1
  refine Int.le_trans s1 ?_
  rw [sm_list, sum_arcs]
  refine sum_le_sum fun n hn => ?_
  unfold lives at hn
  rw [List.mem_filter, List.mem_range] at hn
  have e : rs[n]? = some rs[n] := List.getElem?_eq_getElem hn.1
  have sz : 0 ≤ szN rs n := by
    have := (w n _ e).1
    unfold szN
    rw [e]
    show 0 ≤ rs[n].sz
    omega
  by_cases k : RD rs ws D (2 * n) = true ∧ RD rs ws D (2 * n + 1) = false
  · rw [if_pos k]
    have l : liv rs ws (n : Int) = true := hn.2
    obtain ⟨k1, k2⟩ := k
    rw [RD_in e, l, Bool.true_and, any_not] at k1
    rw [RD_out hn.1, l, Bool.true_and, flags_at w e] at k2
    unfold mk1 at k2
    have : (n : Int) ∈ D := by
      by_cases q : (n : Int) ∈ D
      · exact q
      · rw [decide_eq_false q, Bool.false_or] at k2
        cases a : rs[n].src with
        | true =>
          rw [a] at k2
          simp at k2
        | false =>
          rw [a] at k1 k2
          simp only [Bool.false_or, Bool.not_false, Bool.true_and] at k1 k2
          rw [k1] at k2
          cases k2
    rw [if_pos this]
    exact Int.le_refl _
  · rw [if_neg k]
    split <;> omega
/-- where nothing more can be pushed: the border is a set that makes all wanted nodes, and weighs what flows -/
theorem strong {rs : List Rw} (w : WF rs) {ws : List Int} (hw : InR rs ws) {f : Nat → Int} (F : Flow (arcs rs ws) (SS rs) (TT rs) f) {R : Nat → Bool} (hS : R (SS rs) = true) (hT : R (TT rs) = false)
    (cl : ∀ i fw, i < (arcs rs ws).length → R (begP (arcs rs ws) i fw) = true → pass (arcs rs ws) f i fw → R (endP (arcs rs ws) i fw) = true) :
    let C := (lives rs ws).filter fun n => R (2 * n) && !R (2 * n + 1)
    Valid rs ws (C.map fun (n : Nat) => (n : Int)) ∧ div (arcs rs ws) f (SS rs) = (C.map (szN rs)).sum := by
  intro C
  have lt : ∀ {n : Nat} {r : Rw}, rs[n]? = some r → n < rs.length := fun e => (List.getElem?_eq_some_iff.mp e).1
  have fwd : ∀ a, Arc rs ws a → R a.lo = true → a.cap = none → R a.hi = true := fun a ha hl hc => by
    obtain ⟨i, hi, e⟩ := mem_ar (arc_mem w ha)
    have := cl i true hi (by unfold begP; rw [if_pos rfl, e]; exact hl) (by
      unfold pass
      rw [if_pos rfl, e, hc]
      intro c z
      cases z)
    unfold endP at this
    rw [if_pos rfl, e] at this
    exact this
  constructor
  · -- a living node without a flag is reached
    have key : ∀ (n : Nat), liv rs ws (n : Int) = true → flag (flags rs (C.map fun (n : Nat) => (n : Int))) (n : Int) = false → R (2 * n + 1) = true := by
      intro n
      induction n using Nat.strongRecOn with
      | _ n ih =>
        intro l h
        have hn : n < rs.length := by
          unfold liv at l
          rw [Bool.and_eq_true] at l
          have := flag_lt (Int.natCast_nonneg n) l.1
          rw [abv_len] at this
          omega
        have e : rs[n]? = some rs[n] := List.getElem?_eq_getElem hn
        rw [flags_at w e] at h
        unfold mk1 at h
        rw [Bool.or_eq_false_iff, decide_eq_false_iff_not] at h
        have r2 : R (2 * n) = true := by
          cases s : rs[n].src with
          | true => exact fwd _ (.src e l s rfl) hS rfl
          | false =>
            rw [s] at h
            have h2 : rs[n].ops.all (flag (flags rs (C.map fun (n : Nat) => (n : Int)))) = false := by simpa using h.2
            obtain ⟨o, ho, hf⟩ := List.all_eq_false.mp h2
            obtain ⟨o0, o1⟩ := (w n _ e).2.1 o ho
            obtain ⟨k, rfl⟩ : ∃ k : Nat, o = (k : Int) := ⟨o.toNat, by omega⟩
            have hf : flag (flags rs (C.map fun (n : Nat) => (n : Int))) (k : Int) = false := by simpa using hf
            have nb : bar rs (k : Int) = false := by
              cases b : bar rs (k : Int) with
              | false => rfl
              | true =>
                rw [bar_made w b] at hf
                cases hf
            have l2 : liv rs ws (k : Int) = true := by
              rw [liv_ops w e l ho, nb]
              rfl
            exact fwd _ (.op e l ho l2 (by omega) rfl) (ih k (by omega) l2 hf) rfl
        cases q : R (2 * n + 1) with
        | true => rfl
        | false =>
          refine absurd (List.mem_map.mpr ⟨n, List.mem_filter.mpr ⟨List.mem_filter.mpr ⟨List.mem_range.mpr hn, l⟩, ?_⟩, rfl⟩) h.1
          rw [r2, q]
          rfl
    intro x hx
    obtain ⟨x0, x1⟩ := hw x hx
    obtain ⟨n, rfl⟩ : ∃ n : Nat, x = (n : Int) := ⟨x.toNat, by omega⟩
    cases h : flag (flags rs (C.map fun (n : Nat) => (n : Int))) (n : Int) with
    | true => rfl
    | false =>
      have nb : bar rs (n : Int) = false := by
        cases b : bar rs (n : Int) with
        | false => rfl
        | true =>
          rw [bar_made w b] at h
          cases h
      have l : liv rs ws (n : Int) = true := by
        unfold liv
        rw [abv_want w hw hx, nb]
        rfl
      have hn : n < rs.length := by omega
      have := fwd _ (.want (List.getElem?_eq_getElem hn) l hx rfl) (key n l h) rfl
      have hT' : R (2 * rs.length + 1) = false := hT
      rw [hT'] at this
      cases this
  · rw [cross F hS hT (arcs_pts w) (by unfold SS; omega)]
    have s1 : sm (fun i => (if R (ar (arcs rs ws) i).lo = true then f i else 0) - (if R (ar (arcs rs ws) i).hi = true then f i else 0)) (arcs rs ws).length = sm (fun i => wt R (ar (arcs rs ws) i)) (arcs rs ws).length := by
      refine sm_congr fun i hi => ?_
      unfold wt
      cases h1 : R (ar (arcs rs ws) i).lo with
      | false =>
        simp only [Bool.false_eq_true, if_false, false_and]
        cases h2 : R (ar (arcs rs ws) i).hi with
        | false => rw [if_neg (by decide)]; rfl
        | true =>
          rw [if_pos rfl]
          have p := F.pos i hi
          have : ¬ 0 < f i := fun q => by
            have := cl i false hi (by unfold begP; rw [if_neg (by decide)]; exact h2) (by unfold pass; rw [if_neg (by decide)]; exact q)
            unfold endP at this
            rw [if_neg (by decide), h1] at this
            cases this
          omega
      | true =>
        rw [if_pos rfl]
        cases h2 : R (ar (arcs rs ws) i).hi with
        | true =>
          rw [if_pos rfl, if_neg (by simp)]
          omega
        | false =>
          rw [if_neg (by decide), if_pos ⟨rfl, rfl⟩]
          cases hc : (ar (arcs rs ws) i).cap with
          | none =>
            have := fwd _ (mem_arcs w (ar_mem hi)) h1 hc
            rw [h2] at this
            cases this
          | some c =>
            have cp := F.cap i hi c hc
            have : ¬ f i < c := fun q => by
              have := cl i true hi (by unfold begP; rw [if_pos rfl]; exact h1) (by
                unfold pass
                rw [if_pos rfl, hc]
                intro c' z
                cases z
                exact q)
              unfold endP at this
              rw [if_pos rfl, h2] at this
              cases this
            show f i - 0 = c
            omega
    rw [s1, sm_list, sum_arcs, sum_filter]
    refine congrArg List.sum (List.map_congr_left fun n _ => ?_)
    cases R (2 * n) <;> cases R (2 * n + 1) <;> simp
/-- a part of the living nodes weighs what it holds -/
theorem sum_part {w : Nat → Int} : ∀ {D L : List Nat}, D.Sublist L → L.Nodup → (L.map fun (n : Nat) => if (n : Int) ∈ D.map (fun (k : Nat) => (k : Int)) then w n else 0).sum = (D.map w).sum := by
  intro D L h
  induction h with
  | slnil => intro _; rfl
  | @cons D L x h ih =>
    intro nd
    have nx : x ∉ L := (List.nodup_cons.mp nd).1
    have nd2 := (List.nodup_cons.mp nd).2
    rw [List.map_cons, List.sum_cons, ih nd2, if_neg]
    · omega
    · intro z
      obtain ⟨k, hk, e⟩ := List.mem_map.mp z
      have : k = x := by omega
      exact nx (this ▸ h.subset hk)
  | @cons_cons D L x h ih =>
    intro nd
    have nx : x ∉ L := (List.nodup_cons.mp nd).1
    have nd2 := (List.nodup_cons.mp nd).2
    have e1 : ((x :: D).map w).sum = w x + (D.map w).sum := by rw [List.map_cons, List.sum_cons]
    rw [e1, ← ih nd2, List.map_cons, List.sum_cons, if_pos (by simp)]
    congr 1
    refine congrArg List.sum (List.map_congr_left fun n hn => ?_)
    have : n ≠ x := fun z => nx (z ▸ hn)
    by_cases k : (n : Int) ∈ D.map (fun (k : Nat) => (k : Int))
    · rw [if_pos k, if_pos (by rw [List.map_cons]; exact List.mem_cons_of_mem _ k)]
    · rw [if_neg k, if_neg]
      intro z
      rw [List.map_cons] at z
      rcases List.mem_cons.mp z with z | z
      · omega
      · exact k z
theorem lives_nodup {rs : List Rw} {ws : List Int} : (lives rs ws).Nodup := List.Pairwise.filter _ List.nodup_range
end NF
set_option Elab.async false
set_option linter.all false
set_option maxRecDepth 100000
set_option maxHeartbeats 4000000
namespace K15W
open PySem PySem.Spec PyProof.Rows L2 TL LW
local macro_rules | `(tactic| walk_at "ne") => `(tactic| first
  | assumption
  | exact Ne.symm (by assumption)
  | exact ne_of_none (by assumption) (by assumption)
  | exact (ne_of_none (by assumption) (by assumption)).symm
  | (apply ne_of_none; (case h' => assumption); (case h => walk_at "hp"))
  | (apply Ne.symm; apply ne_of_none; (case h' => assumption); (case h => walk_at "hp")))
local macro_rules | `(tactic| walk_at "hp") => `(tactic| first
  | assumption
  | exact upd_same
  | exact hp_new (by assumption) (by assumption)
  | (apply hp_new; (case n => assumption); (case h => walk_at "hp"))
  | (refine (upd_ne ?ne).trans ?hp; (case ne => walk_at "ne"); (case hp => walk_at "hp")))
local macro_rules | `(tactic| walk_at "sq") => `(tactic| first
  | ((with_reducible show SqL _ _ _ _); assumption)
  | ((with_reducible show SqT _ _ _ _); assumption)
  | exact SqL.of (by assumption)
  | exact SqL.of upd_same
  | exact SqT.of (by assumption)
  | exact SqT.of upd_same
  | (apply SqL.of; walk_at "hp")
  | (apply SqT.of; walk_at "hp"))
local macro_rules | `(tactic| walk_at "len") => `(tactic| first
  | assumption
  | exact sz_small (by omega)
  | exact sz_less (by omega)
  | decide
  | (refine sz_small ?_; simp only [List.length_append, List.length_cons, List.length_nil, List.length_map, str_len]; omega)
  | (refine sz_less ?_; simp only [List.length_append, List.length_cons, List.length_nil, List.length_map, str_len]; omega))
local macro_rules | `(tactic| walk_at "cond") => `(tactic| first
  | omega
  | (split <;> omega)
  | assumption
  | exact .inl ⟨by omega, by omega⟩
  | exact .inr ⟨by omega, by omega⟩
  | exact ⟨by omega, by omega⟩
  | (show (0 : Int) < _; omega)
  | (show (0 : Int) < _; decide +kernel)
  | exact ⟨by omega, by omega, by decide⟩
  | walk_at "len"
  | rfl
  | (show CMulW _ _; unfold CMulW; decide +kernel)
  | exact ⟨_, rfl⟩
  | decide +kernel
  | exact ⟨_, by walk_at "sq"⟩
  | exact .inl ⟨rfl, _, by walk_at "sq"⟩)
local macro_rules | `(tactic| walk_at "at") => `(tactic| first
  | assumption
  | exact atI_nat (by assumption)
  | exact atI_last _ _
  | exact atI_nat (j := 0) rfl
  | exact atI_nat (j := 1) rfl
  | exact atI_nat (j := 2) rfl
  | exact atI_nat (j := 3) rfl
  | exact atI_nat (j := 4) rfl)
local macro_rules | `(tactic| walk_at "ix") => `(tactic| first
  | assumption
  | (with_reducible exact ixN_0 (by simp; done))
  | (with_reducible exact ixN_1 (by simp; done))
  | (with_reducible exact ixN_2 (by simp; done))
  | (with_reducible exact Evl.ixN_nat (by assumption))
  | (with_reducible exact Evl.ixN_nat (by omega)))
local macro_rules | `(tactic| walk_at "v") => `(tactic| first
  | exact val_var rfl
  | (with_reducible exact val_c)
  | (with_reducible apply val_orV; (case ha => walk_at "v"); (case hb => walk_at "v"))
  | (with_reducible apply val_andV; (case ha => walk_at "v"); (case hb => walk_at "v"))
  | (with_reducible apply val_notV; walk_at "v")
  | (with_reducible apply val_ifS; (case h => walk_at "w"); (case ha => walk_at "v"); (case hb => walk_at "v"))
  | (with_reducible apply val_ifI; (case h => walk_at "w"); (case ha => walk_at "v"); (case hb => walk_at "v"))
  | (with_reducible apply val_ifB; (case h => walk_at "w"); (case ha => walk_at "v"); (case hb => walk_at "v"))
  | (with_reducible apply val_eqS; (case ha => walk_at "v"); (case hb => walk_at "v"))
  | (with_reducible apply val_eqI; (case ha => walk_at "v"); (case hb => walk_at "v"))
  | (with_reducible apply val_neS; (case ha => walk_at "v"); (case hb => walk_at "v"))
  | (with_reducible apply val_neI; (case ha => walk_at "v"); (case hb => walk_at "v"))
  | (with_reducible apply val_op; (case ha => walk_at "v"); (case hb => walk_at "v"); (case hr => exact fun Q q => ⟨_, _, rfl, rfl, q⟩)))
local macro_rules | `(tactic| walk_at "w") => `(tactic| first
  | (with_reducible apply ans_or2; (case h1 => walk_at "w"); (case h2 => walk_at "w"))
  | (with_reducible apply ans_and2; (case h1 => walk_at "w"); (case h2 => walk_at "w"))
  | (with_reducible apply ans_not; walk_at "w")
  | (with_reducible apply ans_test; walk_at "v")
  | (with_reducible apply ans_val; walk_at "v"))
local macro_rules | `(tactic| walk_at "s1") => `(tactic| first
  | (with_reducible refine go_c ?_)
  | (with_reducible apply go_pick; (case hs => walk_at "hp"); (case h0 => walk_at "cond"); (case h1 => walk_at "cond"); (case' q => intro k a b c h0 h1))
  | (with_reducible refine go_nil ?_)
  | (with_reducible refine go_cons ?_)
  | (with_reducible refine go_call ?_)
  | (with_reducible refine go_cb ?_)
  | (with_reducible refine go_next ?_)
  | (with_reducible refine go_cont ?_)
  | (with_reducible refine go_ret ?_)
  | (with_reducible refine go_name ?_)
  | (with_reducible refine go_seq ?_)
  | (with_reducible refine go_asg ?_)
  | (with_reducible apply go_or; (case h => walk_at "v"))
  | (with_reducible apply go_and; (case h => walk_at "v"))
  | (with_reducible apply go_andL; (case h => walk_at "v"); (case' h1 => intro e); (case' h2 => intro e))
  | (with_reducible apply go_orL; (case h => walk_at "v"); (case' h1 => intro e); (case' h2 => intro e))
  | (with_reducible apply go_ifE; (case h => walk_at "v"))
  | (with_reducible apply go_ifOr; (case h => walk_at "w"); (case' h1 => intro e); (case' h2 => intro e))
  | (with_reducible apply go_ifAnd; (case h => walk_at "w"); (case' h1 => intro e); (case' h2 => intro e))
  | (with_reducible refine go_min ?_)
  | refine ⟨_, rfl, ?_⟩
  | refine ⟨_, _, rfl, rfl, ?_⟩
  | (refine And.intro ?cc ?_; (case cc => walk_at "cond"))
  | refine ⟨_, _, _, _, rfl, rfl, by walk_at "sq", by walk_at "at", ?_⟩
  | refine ⟨_, _, _, _, rfl, rfl, by walk_at "hp", by walk_at "ix", ?_⟩
  | refine ⟨_, _, _, _, rfl, rfl, by walk_at "hp", by walk_at "hp", by walk_at "len", ?_⟩
  | refine ⟨_, _, _, rfl, rfl, by walk_at "len", by walk_at "at", ?_⟩
  | refine ⟨_, _, _, rfl, rfl, by walk_at "hp", by walk_at "len", ?_⟩
  | refine ⟨_, _, _, rfl, rfl, by walk_at "hp", by walk_at "at", ?_⟩
  | refine ⟨_, _, rfl, rfl, by walk_at "sq", ?_⟩
  | refine ⟨_, _, rfl, rfl, by walk_at "len", ?_⟩
  | refine ⟨_, _, rfl, by walk_at "sq", ?_⟩
  | refine ⟨_, _, rfl, .inl (by walk_at "sq"), ?_⟩
  | refine ⟨_, _, rfl, .inr (by walk_at "sq"), ?_⟩
  | refine ⟨_, _, rfl, by walk_at "sq", rfl, ?_⟩
  | refine ⟨_, fun _ _ h => h, ?_⟩
  | refine ⟨_, _, rfl, ?_⟩
  | refine .inl ⟨_, rfl, ?_⟩
  | refine ⟨_, _, .type "int", .type _, true, rfl, ClsV.ty _, .base (.int _), kit_ty (by decide +kernel), ?_⟩
  | refine ⟨_, _, .type "int", .type _, false, rfl, ClsV.ty _, .base (.int _), kit_ty (by decide +kernel), ?_⟩
  | refine ⟨_, _, .type "bool", .type _, true, rfl, ClsV.ty _, .base (.bl _), kit_ty (by decide +kernel), ?_⟩
  | refine ⟨_, _, .type "bool", .type _, false, rfl, ClsV.ty _, .base (.bl _), kit_ty (by decide +kernel), ?_⟩
  | refine ⟨_, _, .type "str", .type _, true, rfl, ClsV.ty _, .base (.str _), kit_ty (by decide +kernel), ?_⟩
  | refine ⟨_, _, .type "str", .type _, false, rfl, ClsV.ty _, .base (.str _), kit_ty (by decide +kernel), ?_⟩
  | refine ⟨_, _, .type "NoneType", .type _, true, rfl, ClsV.ty _, .base (.non), kit_ty (by decide +kernel), ?_⟩
  | refine ⟨_, _, .type "NoneType", .type _, false, rfl, ClsV.ty _, .base (.non), kit_ty (by decide +kernel), ?_⟩
  | refine ⟨_, _, .type "list", .type _, true, rfl, ClsV.ty _, .base (.lst (by walk_at "hp")), kit_ty (by decide +kernel), ?_⟩
  | refine ⟨_, _, .type "list", .type _, false, rfl, ClsV.ty _, .base (.lst (by walk_at "hp")), kit_ty (by decide +kernel), ?_⟩
  | refine ⟨_, _, .type "tuple", .type _, true, rfl, ClsV.ty _, .base (.tup (by walk_at "hp")), kit_ty (by decide +kernel), ?_⟩
  | refine ⟨_, _, .type "tuple", .type _, false, rfl, ClsV.ty _, .base (.tup (by walk_at "hp")), kit_ty (by decide +kernel), ?_⟩
  | (refine fun (p : Addr) (hp : _ = none) => ?_)
  | refine iteT ?_
  | refine iteF ?_
  | refine iteD (fun _ => ?_) (fun e => absurd rfl e)
  | refine iteS (fun e => ?_) (fun e => ?_)
  | refine iteI (fun e => ?_) (fun e => ?_)
  | refine iteSn (fun e => ?_) (fun e => ?_)
  | refine iteIn (fun e => ?_) (fun e => ?_)
  | refine iteD (fun e => ?_) (fun e => ?_)
  | refine iteDn (fun e => ?_) (fun e => ?_)
  | refine ite2 (fun e => ?_) (fun e => ?_))
local macro_rules | `(tactic| walk_at "s") => `(tactic| repeat' (first
  | (with_reducible refine go_c ?_)
  | (with_reducible apply go_pick; (case hs => walk_at "hp"); (case h0 => walk_at "cond"); (case h1 => walk_at "cond"); (case' q => intro k a b c h0 h1))
  | (with_reducible refine go_nil ?_)
  | (with_reducible refine go_cons ?_)
  | (with_reducible refine go_call ?_)
  | (with_reducible refine go_cb ?_)
  | (with_reducible refine go_next ?_)
  | (with_reducible refine go_cont ?_)
  | (with_reducible refine go_ret ?_)
  | (with_reducible refine go_name ?_)
  | (with_reducible refine go_seq ?_)
  | (with_reducible refine go_asg ?_)
  | (with_reducible apply go_or; (case h => walk_at "v"))
  | (with_reducible apply go_and; (case h => walk_at "v"))
  | (with_reducible apply go_andL; (case h => walk_at "v"); (case' h1 => intro e); (case' h2 => intro e))
  | (with_reducible apply go_orL; (case h => walk_at "v"); (case' h1 => intro e); (case' h2 => intro e))
  | (with_reducible apply go_ifE; (case h => walk_at "v"))
  | (with_reducible apply go_ifOr; (case h => walk_at "w"); (case' h1 => intro e); (case' h2 => intro e))
  | (with_reducible apply go_ifAnd; (case h => walk_at "w"); (case' h1 => intro e); (case' h2 => intro e))
  | (with_reducible refine go_min ?_)
  | refine ⟨_, rfl, ?_⟩
  | refine ⟨_, _, rfl, rfl, ?_⟩
  | (refine And.intro ?cc ?_; (case cc => walk_at "cond"))
  | refine ⟨_, _, _, _, rfl, rfl, by walk_at "sq", by walk_at "at", ?_⟩
  | refine ⟨_, _, _, _, rfl, rfl, by walk_at "hp", by walk_at "ix", ?_⟩
  | refine ⟨_, _, _, _, rfl, rfl, by walk_at "hp", by walk_at "hp", by walk_at "len", ?_⟩
  | refine ⟨_, _, _, rfl, rfl, by walk_at "len", by walk_at "at", ?_⟩
  | refine ⟨_, _, _, rfl, rfl, by walk_at "hp", by walk_at "len", ?_⟩
  | refine ⟨_, _, _, rfl, rfl, by walk_at "hp", by walk_at "at", ?_⟩
  | refine ⟨_, _, rfl, rfl, by walk_at "sq", ?_⟩
  | refine ⟨_, _, rfl, rfl, by walk_at "len", ?_⟩
  | refine ⟨_, _, rfl, by walk_at "sq", ?_⟩
  | refine ⟨_, _, rfl, .inl (by walk_at "sq"), ?_⟩
  | refine ⟨_, _, rfl, .inr (by walk_at "sq"), ?_⟩
  | refine ⟨_, _, rfl, by walk_at "sq", rfl, ?_⟩
  | refine ⟨_, fun _ _ h => h, ?_⟩
  | refine ⟨_, _, rfl, ?_⟩
  | refine .inl ⟨_, rfl, ?_⟩
  | refine ⟨_, _, .type "int", .type _, true, rfl, ClsV.ty _, .base (.int _), kit_ty (by decide +kernel), ?_⟩
  | refine ⟨_, _, .type "int", .type _, false, rfl, ClsV.ty _, .base (.int _), kit_ty (by decide +kernel), ?_⟩
  | refine ⟨_, _, .type "bool", .type _, true, rfl, ClsV.ty _, .base (.bl _), kit_ty (by decide +kernel), ?_⟩
  | refine ⟨_, _, .type "bool", .type _, false, rfl, ClsV.ty _, .base (.bl _), kit_ty (by decide +kernel), ?_⟩
  | refine ⟨_, _, .type "str", .type _, true, rfl, ClsV.ty _, .base (.str _), kit_ty (by decide +kernel), ?_⟩
  | refine ⟨_, _, .type "str", .type _, false, rfl, ClsV.ty _, .base (.str _), kit_ty (by decide +kernel), ?_⟩
  | refine ⟨_, _, .type "NoneType", .type _, true, rfl, ClsV.ty _, .base (.non), kit_ty (by decide +kernel), ?_⟩
  | refine ⟨_, _, .type "NoneType", .type _, false, rfl, ClsV.ty _, .base (.non), kit_ty (by decide +kernel), ?_⟩
  | refine ⟨_, _, .type "list", .type _, true, rfl, ClsV.ty _, .base (.lst (by walk_at "hp")), kit_ty (by decide +kernel), ?_⟩
  | refine ⟨_, _, .type "list", .type _, false, rfl, ClsV.ty _, .base (.lst (by walk_at "hp")), kit_ty (by decide +kernel), ?_⟩
  | refine ⟨_, _, .type "tuple", .type _, true, rfl, ClsV.ty _, .base (.tup (by walk_at "hp")), kit_ty (by decide +kernel), ?_⟩
  | refine ⟨_, _, .type "tuple", .type _, false, rfl, ClsV.ty _, .base (.tup (by walk_at "hp")), kit_ty (by decide +kernel), ?_⟩
  | (refine fun (p : Addr) (hp : _ = none) => ?_)
  | refine iteT ?_
  | refine iteF ?_
  | refine iteD (fun _ => ?_) (fun e => absurd rfl e)
  | refine iteS (fun e => ?_) (fun e => ?_)
  | refine iteI (fun e => ?_) (fun e => ?_)
  | refine iteSn (fun e => ?_) (fun e => ?_)
  | refine iteIn (fun e => ?_) (fun e => ?_)
  | refine iteD (fun e => ?_) (fun e => ?_)
  | refine iteDn (fun e => ?_) (fun e => ?_)
  | refine ite2 (fun e => ?_) (fun e => ?_)))

def topS (i : Nat) : Stmt := PySem.Challenge.pw_tellsasleep_k19_numbers_add_up.main.body.getD i (.Pass ⟨0, 0, 0, 0⟩)
abbrev s_bound : Stmt := topS 7
theorem sc_bound : FnScope ["what", "number"] ["what", "number"] (defScope s_bound) := ⟨rfl, rfl, rfl, by decide +kernel, rfl, by decide +kernel, by decide +kernel⟩
abbrev s_lines_at : Stmt := topS 9
theorem sc_lines_at : FnScope ["points", "arcs", "lines", "arc", "low", "high", "point"] ["points", "arcs"] (defScope s_lines_at) := ⟨rfl, rfl, rfl, by decide +kernel, rfl, by decide +kernel, by decide +kernel⟩
abbrev s_passes : Stmt := topS 10
theorem sc_passes : FnScope ["arcs", "amounts", "arc", "forward"] ["arcs", "amounts", "arc", "forward"] (defScope s_passes) := ⟨rfl, rfl, rfl, by decide +kernel, rfl, by decide +kernel, by decide +kernel⟩
abbrev s_reached : Stmt := topS 11
theorem sc_reached : FnScope ["lines", "arcs", "amounts", "starts", "backward", "point", "came", "queue", "at", "arc", "other", "forward"] ["lines", "arcs", "amounts", "starts", "backward"] (defScope s_reached) := ⟨rfl, rfl, rfl, by decide +kernel, rfl, by decide +kernel, by decide +kernel⟩
abbrev s_steps_to : Stmt := topS 12
theorem sc_steps_to : FnScope ["came", "point", "steps", "arc", "before", "forward"] ["came", "point"] (defScope s_steps_to) := ⟨rfl, rfl, rfl, by decide +kernel, rfl, by decide +kernel, by decide +kernel⟩
abbrev s_room_left : Stmt := topS 13
theorem sc_room_left : FnScope ["arcs", "amounts", "arc", "forward"] ["arcs", "amounts", "arc", "forward"] (defScope s_room_left) := ⟨rfl, rfl, rfl, by decide +kernel, rfl, by decide +kernel, by decide +kernel⟩
abbrev s_filled : Stmt := topS 14
theorem sc_filled : FnScope ["points", "arcs", "source", "sink", "lines", "amounts", "came", "steps", "arc", "forward", "rooms", "least", "room"] ["points", "arcs", "source", "sink"] (defScope s_filled) := ⟨rfl, rfl, rfl, by decide +kernel, rfl, by decide +kernel, by decide +kernel⟩
abbrev s_living : Stmt := topS 16
theorem sc_living : FnScope ["rows", "wanted", "above", "node", "operand", "fed", "size", "operands", "source"] ["rows", "wanted"] (defScope s_living) := ⟨rfl, rfl, rfl, by decide +kernel, rfl, by decide +kernel, by decide +kernel⟩
abbrev s_lines_between : Stmt := topS 17
theorem sc_lines_between : FnScope ["rows", "wanted", "alive", "node", "goals", "arcs", "size", "operands", "source", "operand"] ["rows", "wanted"] (defScope s_lines_between) := ⟨rfl, rfl, rfl, by decide +kernel, rfl, by decide +kernel, by decide +kernel⟩
abbrev s_Split___init__ : Stmt := inClass (topS 18) 0
theorem sc_Split___init__ : FnScope ["self", "rows", "wanted"] ["self", "rows", "wanted"] (defScope s_Split___init__) := ⟨rfl, rfl, rfl, by decide +kernel, rfl, by decide +kernel, by decide +kernel⟩
abbrev s_step_on : Stmt := topS 20
theorem sc_step_on : FnScope ["split", "left", "point", "arc", "other", "forward"] ["split", "left", "point"] (defScope s_step_on) := ⟨rfl, rfl, rfl, by decide +kernel, rfl, by decide +kernel, by decide +kernel⟩
abbrev s_greatest_ways : Stmt := topS 21
theorem sc_greatest_ways : FnScope ["rows", "wanted", "split", "left", "used", "ways", "point", "way", "node"] ["rows", "wanted"] (defScope s_greatest_ways) := ⟨rfl, rfl, rfl, by decide +kernel, rfl, by decide +kernel, by decide +kernel⟩
abbrev s_Net___init__ : Stmt := inClass (topS 23) 0
theorem sc_Net___init__ : FnScope ["self", "rows", "node", "size", "operands", "source", "operand"] ["self", "rows"] (defScope s_Net___init__) := ⟨rfl, rfl, rfl, by decide +kernel, rfl, by decide +kernel, by decide +kernel⟩
abbrev s_Net_greatest : Stmt := inClass (topS 23) 3
theorem sc_Net_greatest : FnScope ["self", "wanted", "ways"] ["self", "wanted"] (defScope s_Net_greatest) := ⟨rfl, rfl, rfl, by decide +kernel, rfl, by decide +kernel, by decide +kernel⟩
abbrev s_law_source : Stmt := topS 25
theorem sc_law_source : FnScope ["script", "at", "limit", "cell", "cells", "state", "great"] ["script", "at"] (defScope s_law_source) := ⟨rfl, rfl, rfl, by decide +kernel, rfl, by decide +kernel, by decide +kernel⟩
abbrev s_law_pick : Stmt := topS 26
theorem sc_law_pick : FnScope ["source", "many", "found", "state"] ["source", "many"] (defScope s_law_pick) := ⟨rfl, rfl, rfl, by decide +kernel, rfl, by decide +kernel, by decide +kernel⟩
abbrev s_law_shuffled : Stmt := topS 27
theorem sc_law_shuffled : FnScope ["source", "things", "left", "found"] ["source", "things"] (defScope s_law_shuffled) := ⟨rfl, rfl, rfl, by decide +kernel, rfl, by decide +kernel, by decide +kernel⟩
abbrev s_law_same : Stmt := topS 28
theorem sc_law_same : FnScope ["answer", "due", "key", "one", "other"] ["answer", "due"] (defScope s_law_same) := ⟨rfl, rfl, rfl, by decide +kernel, rfl, by decide +kernel, by decide +kernel⟩
abbrev s_law_c_made : Stmt := topS 29
theorem sc_law_c_made : FnScope ["rows", "kept", "flags", "node", "operand"] ["rows", "kept"] (defScope s_law_c_made) := ⟨rfl, rfl, rfl, by decide +kernel, rfl, by decide +kernel, by decide +kernel⟩
abbrev s_law_c_living : Stmt := topS 30
theorem sc_law_c_living : FnScope ["rows", "wanted", "node", "above", "turn", "operand", "bare"] ["rows", "wanted"] (defScope s_law_c_living) := ⟨rfl, rfl, rfl, by decide +kernel, rfl, by decide +kernel, by decide +kernel⟩
abbrev s_law_c_weight : Stmt := topS 31
theorem sc_law_c_weight : FnScope ["rows", "nodes", "node"] ["rows", "nodes"] (defScope s_law_c_weight) := ⟨rfl, rfl, rfl, by decide +kernel, rfl, by decide +kernel, by decide +kernel⟩
abbrev s_law_c_next : Stmt := topS 32
theorem sc_law_c_next : FnScope ["rows", "wanted", "living_v", "users", "flow", "point", "node", "found", "operand", "user"] ["rows", "wanted", "living_v", "users", "flow", "point"] (defScope s_law_c_next) := ⟨rfl, rfl, rfl, by decide +kernel, rfl, by decide +kernel, by decide +kernel⟩
abbrev s_law_c_flow : Stmt := topS 33
theorem sc_law_c_flow : FnScope ["rows", "wanted", "living_v", "users", "node", "operand", "flow", "number", "turn", "queue", "came", "point", "last", "here", "there", "step", "before", "pair", "back"] ["rows", "wanted"] (defScope s_law_c_flow) := ⟨rfl, rfl, rfl, by decide +kernel, rfl, by decide +kernel, by decide +kernel⟩
abbrev s_law_c_earliest : Stmt := topS 34
theorem sc_law_c_earliest : FnScope ["rows", "wanted", "number", "flow", "came", "node"] ["rows", "wanted"] (defScope s_law_c_earliest) := ⟨rfl, rfl, rfl, by decide +kernel, rfl, by decide +kernel, by decide +kernel⟩
abbrev s_law_c_net : Stmt := topS 35
theorem sc_law_c_net : FnScope ["source", "many", "rows", "node", "size", "kind", "near", "operands", "turn"] ["source", "many"] (defScope s_law_c_net) := ⟨rfl, rfl, rfl, by decide +kernel, rfl, by decide +kernel, by decide +kernel⟩
abbrev s_law_c_goals : Stmt := topS 36
theorem sc_law_c_goals : FnScope ["source", "rows", "most", "found", "turn", "node"] ["source", "rows", "most"] (defScope s_law_c_goals) := ⟨rfl, rfl, rfl, by decide +kernel, rfl, by decide +kernel, by decide +kernel⟩
abbrev s_law_c_braid : Stmt := topS 37
theorem sc_law_c_braid : FnScope ["source", "many", "rows", "tops", "turn", "at", "operands", "node"] ["source"] (defScope s_law_c_braid) := ⟨rfl, rfl, rfl, by decide +kernel, rfl, by decide +kernel, by decide +kernel⟩
abbrev s_law_c_any : Stmt := topS 38
theorem sc_law_c_any : FnScope ["source", "rows"] ["source"] (defScope s_law_c_any) := ⟨rfl, rfl, rfl, by decide +kernel, rfl, by decide +kernel, by decide +kernel⟩
abbrev s_law : Stmt := topS 39
theorem sc_law : FnScope ["script", "source", "rows", "wanted", "net", "base", "flags", "free", "node", "more", "ends", "turn", "order", "elder", "number", "first", "second", "common", "numbers", "one"] ["script"] (defScope s_law) := ⟨rfl, rfl, rfl, by decide +kernel, rfl, by decide +kernel, by decide +kernel⟩
structure Top (w : World) (K : PySem.W.Frag) (mg : Str → Option Value) where
  C_Net : Addr
  m_Net : mg "Net" = some (.ref C_Net)
  cl_Net : Cls K C_Net
  n_Net_own_nodes : NoAttr K C_Net "own_nodes"
  C_Split : Addr
  m_Split : mg "Split" = some (.ref C_Split)
  cl_Split : Cls K C_Split
  n_Split_own_count : NoAttr K C_Split "own_count"
  n_Split_own_arcs : NoAttr K C_Split "own_arcs"
  n_Split_own_lines : NoAttr K C_Split "own_lines"
  n_Split_own_amounts : NoAttr K C_Split "own_amounts"
  a_bound : Addr
  d_bound : FuncData
  F_bound : Fun K "bound" "bound" s_bound a_bound d_bound
  b_bound : Binds K d_bound ["what", "number"] []
  m_bound : mg "bound" = some (.ref a_bound)
  a_lines_at : Addr
  d_lines_at : FuncData
  F_lines_at : Fun K "lines_at" "lines_at" s_lines_at a_lines_at d_lines_at
  b_lines_at : Binds K d_lines_at ["points", "arcs"] []
  m_lines_at : mg "lines_at" = some (.ref a_lines_at)
  a_passes : Addr
  d_passes : FuncData
  F_passes : Fun K "passes" "passes" s_passes a_passes d_passes
  b_passes : Binds K d_passes ["arcs", "amounts", "arc", "forward"] []
  m_passes : mg "passes" = some (.ref a_passes)
  a_reached : Addr
  d_reached : FuncData
  F_reached : Fun K "reached" "reached" s_reached a_reached d_reached
  b_reached : Binds K d_reached ["lines", "arcs", "amounts", "starts", "backward"] []
  m_reached : mg "reached" = some (.ref a_reached)
  a_steps_to : Addr
  d_steps_to : FuncData
  F_steps_to : Fun K "steps_to" "steps_to" s_steps_to a_steps_to d_steps_to
  b_steps_to : Binds K d_steps_to ["came", "point"] []
  m_steps_to : mg "steps_to" = some (.ref a_steps_to)
  a_room_left : Addr
  d_room_left : FuncData
  F_room_left : Fun K "room_left" "room_left" s_room_left a_room_left d_room_left
  b_room_left : Binds K d_room_left ["arcs", "amounts", "arc", "forward"] []
  m_room_left : mg "room_left" = some (.ref a_room_left)
  a_filled : Addr
  d_filled : FuncData
  F_filled : Fun K "filled" "filled" s_filled a_filled d_filled
  b_filled : Binds K d_filled ["points", "arcs", "source", "sink"] []
  m_filled : mg "filled" = some (.ref a_filled)
  a_living : Addr
  d_living : FuncData
  F_living : Fun K "living" "living" s_living a_living d_living
  b_living : Binds K d_living ["rows", "wanted"] []
  m_living : mg "living" = some (.ref a_living)
  a_lines_between : Addr
  d_lines_between : FuncData
  F_lines_between : Fun K "lines_between" "lines_between" s_lines_between a_lines_between d_lines_between
  b_lines_between : Binds K d_lines_between ["rows", "wanted"] []
  m_lines_between : mg "lines_between" = some (.ref a_lines_between)
  a_Split___init__ : Addr
  d_Split___init__ : FuncData
  F_Split___init__ : Fun K "__init__" "Split.__init__" s_Split___init__ a_Split___init__ d_Split___init__
  b_Split___init__ : Binds K d_Split___init__ ["self", "rows", "wanted"] []
  M_Split___init__ : Mk K C_Split a_Split___init__
  a_step_on : Addr
  d_step_on : FuncData
  F_step_on : Fun K "step_on" "step_on" s_step_on a_step_on d_step_on
  b_step_on : Binds K d_step_on ["split", "left", "point"] []
  m_step_on : mg "step_on" = some (.ref a_step_on)
  a_greatest_ways : Addr
  d_greatest_ways : FuncData
  F_greatest_ways : Fun K "greatest_ways" "greatest_ways" s_greatest_ways a_greatest_ways d_greatest_ways
  b_greatest_ways : Binds K d_greatest_ways ["rows", "wanted"] []
  m_greatest_ways : mg "greatest_ways" = some (.ref a_greatest_ways)
  a_Net___init__ : Addr
  d_Net___init__ : FuncData
  F_Net___init__ : Fun K "__init__" "Net.__init__" s_Net___init__ a_Net___init__ d_Net___init__
  b_Net___init__ : Binds K d_Net___init__ ["self", "rows"] []
  M_Net___init__ : Mk K C_Net a_Net___init__
  a_Net_greatest : Addr
  d_Net_greatest : FuncData
  F_Net_greatest : Fun K "greatest" "Net.greatest" s_Net_greatest a_Net_greatest d_Net_greatest
  b_Net_greatest : Binds K d_Net_greatest ["self", "wanted"] []
  M_Net_greatest : Meth K C_Net "greatest" a_Net_greatest
  a_law_source : Addr
  d_law_source : FuncData
  F_law_source : Fun K "_law_source" "_law_source" s_law_source a_law_source d_law_source
  b_law_source : Binds K d_law_source ["script", "at"] []
  m_law_source : mg "_law_source" = some (.ref a_law_source)
  a_law_pick : Addr
  d_law_pick : FuncData
  F_law_pick : Fun K "_law_pick" "_law_pick" s_law_pick a_law_pick d_law_pick
  b_law_pick : Binds K d_law_pick ["source", "many"] []
  m_law_pick : mg "_law_pick" = some (.ref a_law_pick)
  a_law_shuffled : Addr
  d_law_shuffled : FuncData
  F_law_shuffled : Fun K "_law_shuffled" "_law_shuffled" s_law_shuffled a_law_shuffled d_law_shuffled
  b_law_shuffled : Binds K d_law_shuffled ["source", "things"] []
  m_law_shuffled : mg "_law_shuffled" = some (.ref a_law_shuffled)
  a_law_same : Addr
  d_law_same : FuncData
  F_law_same : Fun K "_law_same" "_law_same" s_law_same a_law_same d_law_same
  b_law_same : Binds K d_law_same ["answer", "due"] []
  m_law_same : mg "_law_same" = some (.ref a_law_same)
  a_law_c_made : Addr
  d_law_c_made : FuncData
  F_law_c_made : Fun K "_law_c_made" "_law_c_made" s_law_c_made a_law_c_made d_law_c_made
  b_law_c_made : Binds K d_law_c_made ["rows", "kept"] []
  m_law_c_made : mg "_law_c_made" = some (.ref a_law_c_made)
  a_law_c_living : Addr
  d_law_c_living : FuncData
  F_law_c_living : Fun K "_law_c_living" "_law_c_living" s_law_c_living a_law_c_living d_law_c_living
  b_law_c_living : Binds K d_law_c_living ["rows", "wanted"] []
  m_law_c_living : mg "_law_c_living" = some (.ref a_law_c_living)
  a_law_c_weight : Addr
  d_law_c_weight : FuncData
  F_law_c_weight : Fun K "_law_c_weight" "_law_c_weight" s_law_c_weight a_law_c_weight d_law_c_weight
  b_law_c_weight : Binds K d_law_c_weight ["rows", "nodes"] []
  m_law_c_weight : mg "_law_c_weight" = some (.ref a_law_c_weight)
  a_law_c_next : Addr
  d_law_c_next : FuncData
  F_law_c_next : Fun K "_law_c_next" "_law_c_next" s_law_c_next a_law_c_next d_law_c_next
  b_law_c_next : Binds K d_law_c_next ["rows", "wanted", "living_v", "users", "flow", "point"] []
  m_law_c_next : mg "_law_c_next" = some (.ref a_law_c_next)
  a_law_c_flow : Addr
  d_law_c_flow : FuncData
  F_law_c_flow : Fun K "_law_c_flow" "_law_c_flow" s_law_c_flow a_law_c_flow d_law_c_flow
  b_law_c_flow : Binds K d_law_c_flow ["rows", "wanted"] []
  m_law_c_flow : mg "_law_c_flow" = some (.ref a_law_c_flow)
  a_law_c_earliest : Addr
  d_law_c_earliest : FuncData
  F_law_c_earliest : Fun K "_law_c_earliest" "_law_c_earliest" s_law_c_earliest a_law_c_earliest d_law_c_earliest
  b_law_c_earliest : Binds K d_law_c_earliest ["rows", "wanted"] []
  m_law_c_earliest : mg "_law_c_earliest" = some (.ref a_law_c_earliest)
  a_law_c_net : Addr
  d_law_c_net : FuncData
  F_law_c_net : Fun K "_law_c_net" "_law_c_net" s_law_c_net a_law_c_net d_law_c_net
  b_law_c_net : Binds K d_law_c_net ["source", "many"] []
  m_law_c_net : mg "_law_c_net" = some (.ref a_law_c_net)
  a_law_c_goals : Addr
  d_law_c_goals : FuncData
  F_law_c_goals : Fun K "_law_c_goals" "_law_c_goals" s_law_c_goals a_law_c_goals d_law_c_goals
  b_law_c_goals : Binds K d_law_c_goals ["source", "rows", "most"] []
  m_law_c_goals : mg "_law_c_goals" = some (.ref a_law_c_goals)
  a_law_c_braid : Addr
  d_law_c_braid : FuncData
  F_law_c_braid : Fun K "_law_c_braid" "_law_c_braid" s_law_c_braid a_law_c_braid d_law_c_braid
  b_law_c_braid : Binds K d_law_c_braid ["source"] []
  m_law_c_braid : mg "_law_c_braid" = some (.ref a_law_c_braid)
  a_law_c_any : Addr
  d_law_c_any : FuncData
  F_law_c_any : Fun K "_law_c_any" "_law_c_any" s_law_c_any a_law_c_any d_law_c_any
  b_law_c_any : Binds K d_law_c_any ["source"] []
  m_law_c_any : mg "_law_c_any" = some (.ref a_law_c_any)
  a_law : Addr
  d_law : FuncData
  F_law : Fun K "law" "law" s_law a_law d_law
  b_law : Binds K d_law ["script"] []
  m_law : mg "law" = some (.ref a_law)
  bt_law : ∀ (s : Shared) (v : Value), BindsTo s d_law ⟨[v], []⟩ [("script", v)]
  a_LIMITS : Addr
  m_LIMITS : mg "LIMITS" = some (.ref a_LIMITS)
  k_LIMITS_nodes : KDct K w a_LIMITS "nodes" (.int 400)
  m_all : mg "all" = none
  m_any : mg "any" = none
  m_bool : mg "bool" = none
  m_dict : mg "dict" = none
  m_int : mg "int" = none
  m_isinstance : mg "isinstance" = none
  m_len : mg "len" = none
  m_list : mg "list" = none
  m_min : mg "min" = none
  m_range : mg "range" = none
  m_reversed : mg "reversed" = none
  m_set : mg "set" = none
  m_sorted : mg "sorted" = none
  m_str : mg "str" = none
  m_sum : mg "sum" = none
  m_tuple : mg "tuple" = none
  m_zip : mg "zip" = none
section
variable {P : Program} {w : World} {K : PySem.W.Frag} {mg : Str → Option Value} {base : Heap}
/-! ### a number from 0 to many - 1; the source may turn -/
def spPick : Sp := fun vs H Q _ => ∃ (s : Addr) (a b c many : Int), vs = [.ref s, .int many] ∧ H s = some (.lst [.int a, .int b, .int c]) ∧ 0 < many ∧ many < 1073741824 ∧
  ∀ k a' b' c' : Int, 0 ≤ k → k < many → Q (.int k) (upd H s (.lst [.int a', .int b', .int c']))
theorem go_pick {s : Addr} {a b c many : Int} {H : Hp} {Q : VK} {E : XK} (hs : H s = some (.lst [.int a, .int b, .int c])) (h0 : 0 < many) (h1 : many < 1073741824)
    (q : ∀ k a' b' c' : Int, 0 ≤ k → k < many → Q (.int k) (upd H s (.lst [.int a', .int b', .int c']))) : spPick ([.ref s, .int many] ++ []) H Q E := ⟨s, a, b, c, many, rfl, hs, h0, h1, q⟩
theorem ok_pick (T : Top w K mg) : FnOk P w K mg base CX0 1 T.a_law_pick T.d_law_pick ["source", "many"] spPick := by
  refine T.F_law_pick.ok sc_law_pick (fun vs H Q E h => ?_) (fun cdv A outer s H vs Q E hr h => ?_)
  · obtain ⟨s, a, b, c, m, rfl, _⟩ := h
    rfl
  · obtain ⟨s, a, b, c, m, rfl, hs, m0, m1, q⟩ := h
    refine ⟨_, (pss_cons (ps_if (pt_cmpR op_gt (pe_ix ix_list (pv 0) pe_int (fun _ _ => rfl)) pe_int (nomark _))
    (pss_cons (ps_set (i := 2) sc_law_pick.nd rfl (.inl rfl) (pe_op op_mod (pe_ix ix_list (pv 0) pe_int (fun _ _ => rfl)) (pv 1)))
    (pss_cons (ps_asg (pe_op op_fdiv (pe_ix ix_list (pv 0) pe_int (fun _ _ => rfl)) (pv 1)) (pg_sub (pv 0) pe_int set_list))
    (pss_one (ps_ret (pv 2)))))
    pss_nil)
    (pss_cons (ps_asg (pe_op op_add (pe_ix ix_list (pv 0) pe_int (fun _ _ => rfl)) pe_int) (pg_sub (pv 0) pe_int set_list))
    (pss_cons (ps_set (i := 3) sc_law_pick.nd rfl (.inl rfl) (pe_op op_mod (pe_op op_add (pe_op op_add (pe_op op_mul (pe_ix ix_list (pv 0) pe_int (fun _ _ => rfl)) pe_int) (pe_op op_mul (pe_ix ix_list (pv 0) pe_int (fun _ _ => rfl)) pe_int)) pe_int) pe_int))
    (pss_cons (ps_set (i := 3) sc_law_pick.nd rfl (.inl rfl) (pe_op op_mod (pe_op op_add (pe_op op_add (pe_op op_mul (pv 3) pe_int) (pe_op op_mul (pe_ix ix_list (pv 0) pe_int (fun _ _ => rfl)) pe_int)) pe_int) pe_int))
    (pss_cons (ps_asg (pv 3) (pg_sub (pv 0) pe_int set_list))
    (pss_one (ps_ret (pe_op op_mod (pe_op op_fdiv (pv 3) pe_int) (pv 1))))))))), ?_⟩
    walk_at "s"
    · exact q _ _ _ _ (Int.emod_nonneg _ (by omega)) (Int.emod_lt_of_pos _ m0)
    · rw [upd_upd]
      exact q _ _ _ _ (Int.emod_nonneg _ (by omega)) (Int.emod_lt_of_pos _ m0)
/-! ### the source of a script -/
def spSource (K : PySem.W.Frag) : Sp := fun vs H Q _ => ∃ (l : Addr) (ns : List Int) (n : Nat), vs = [.ref l, .int n] ∧ SqL K H l (ns.map V.int) ∧ ns.length ≤ 63 ∧ n ≤ 1000 ∧
  ∀ (s : Addr) (a b c : Int) (H' : Hp), Same H H' → H s = none → H' s = some (.lst [.int a, .int b, .int c]) → Q (.ref s) H'
theorem ok_source (T : Top w K mg) : FnOk P w K mg base CX0 1 T.a_law_source T.d_law_source ["script", "at"] (spSource K) := by
  refine T.F_law_source.ok sc_law_source (fun vs H Q E h => ?_) (fun cdv A outer s H vs Q E hr h => ?_)
  · obtain ⟨l, ns, n, rfl, _⟩ := h
    rfl
  · obtain ⟨l, ns, n, rfl, hl, hn, hb, q⟩ := h
    refine ⟨_, (pss_cons (ps_set (i := 2) sc_law_source.nd rfl (.inr rfl) (pe_op op_mulW (pe_op op_mulW (pe_op op_mulW (pe_op op_mulW (pe_op op_mulW (pe_op op_pow pe_int pe_int) (pe_op op_pow pe_int pe_int)) (pe_op op_pow pe_int pe_int)) (pe_op op_pow pe_int pe_int)) (pe_op op_pow pe_int pe_int)) (pe_op op_pow pe_int pe_int)))
    (pss_cons (ps_setLc (i := 4) (own := [("cell", 3)]) rfl sc_law_source.nd rfl rfl (sw_true rfl rfl rfl (by decide +kernel)) (pi_list (pe_slice sl_list (pv 0) po_none (po_some pe_int))) (blkOk_by (own := [("cell", 3)]) (N := ["script", "at", "limit", "cell", "cells", "state", "great"]) (sc := defScope s_law_source) (by decide +kernel)) (fun _ _ _ _ _ => (pg_name (i := 3) sc_law_source.nd rfl (.inl rfl))) (fun _ _ _ _ _ => pts_nil) (fun _ _ _ _ _ => (pe_op op_mod (pe_callTy call_int1 (by rfl) T.m_int (by decide +kernel) (pa_cons (pv 3) pa_nil)) (pv 2))))
    (pss_cons (ps_set (i := 5) sc_law_source.nd rfl (.inl rfl) (pe_op op_add pe_int (pe_op op_mul (pv 1) pe_int)))
    (pss_cons (ps_for PassesOwn.never rfl (pi_list (pv 4)) (pg_name (i := 3) sc_law_source.nd rfl (.inl rfl))
    (pss_one (ps_set (i := 5) sc_law_source.nd rfl (.inl rfl) (pe_op op_mod (pe_op op_add (pe_op op_add (pe_op op_mul (pv 5) pe_int) (pe_op op_mod (pv 3) pe_int)) pe_int) pe_int))))
    (pss_cons (ps_set (i := 6) sc_law_source.nd rfl (.inl rfl) (pe_ifExp (pt_cmpR op_gt (pe_callB call_len_seq (by rfl) T.m_len (by decide +kernel) (pa_cons (pv 4) pa_nil)) pe_int (nomark _)) (pe_ix ix_list (pv 4) (pe_op op_mod (pv 1) (pe_callB call_len_seq (by rfl) T.m_len (by decide +kernel) (pa_cons (pv 4) pa_nil))) (fun _ _ => rfl)) pe_int))
    (pss_one (ps_ret (pe_lst (pa_cons (pe_ifExp (pt_cmpR op_ge (pv 6) (pe_op op_pow pe_int pe_int) (nomark _)) (pv 6) pe_int) (pa_cons (pv 5) (pa_cons (pe_op op_mod (pv 1) pe_int) pa_nil))))))))))), ?_⟩
    walk_at "s"
    rename_i c hc D hD
    have ec : cutV (ns.map V.int) none (some 63) = (ns.take 63).map V.int := by
      rw [show (63 : Int) = ((63 : Nat) : Int) from rfl, cut_take, List.map_take]
    rw [ec] at hD ⊢
    have hl1 : Same H (upd H c (.lst ((ns.take 63).map V.int))) := same_new hc
    have hl2 := hl1.trans (same_new (o := .lst []) hD)
    refine lc_list (xs := (ns.take 63).map V.int) (fun i H1 => ∃ ms : List Int, ms.length = i ∧ Same H H1 ∧ H1 c = some (.lst ((ns.take 63).map V.int)) ∧ H1 D = some (.lst (ms.map V.int))) ?_ ?_ ?_ ?_
    · exact ⟨[], rfl, hl2, by walk_at "hp", upd_same⟩
    · intro i H1 hi hP
      obtain ⟨ms, e1, sm, h1, h2⟩ := hP
      exact SqL.of h1
    · intro i x H1 hi hP
      obtain ⟨ms, e1, sm, h1, h2⟩ := hP
      obtain ⟨v, rfl, hv⟩ := map_get hi
      walk_at "s"
      have hi' : i < 63 := by
        have := (List.getElem?_eq_some_iff.mp hv).1
        rw [List.length_take] at this
        omega
      have nc : c ≠ D := by walk_at "ne"
      have nD : H D = none := hl1.free hD
      exact ⟨_, h2, sz_less (by rw [List.length_map]; omega), ms ++ [_], by simp [e1], same_mut sm nD, (upd_ne nc).trans h1, by rw [upd_same, List.map_append]; rfl⟩
    · intro H1 hP
      obtain ⟨ms, e1, sm, h1, h2⟩ := hP
      walk_at "s"
      refine for_list (xs := ms.map V.int) (fun i σ H2 => ∃ v0 v5 v6, σ = [some (.ref l), some (.int n), v0, v5, some (.ref D), some (.int v6), none] ∧ H2 = H1) ⟨_, _, _, rfl, rfl⟩ ?_ ?_ ?_
      · intro i σ H2 hi hP
        obtain ⟨v0, v5, v6, rfl, rfl⟩ := hP
        exact SqL.of h2
      · intro i x σ H2 hi hP
        obtain ⟨v0, v5, v6, rfl, rfl⟩ := hP
        obtain ⟨v, rfl, hv⟩ := map_get hi
        walk_at "s"
        exact ⟨_, _, _, rfl, rfl⟩
      · intro σ H2 hP
        obtain ⟨v0, v5, v6, rfl, rfl⟩ := hP
        walk_at "s"
        · rename_i e0
          obtain ⟨g, hg, ha⟩ := atI_map (f := V.int) (ms := ms) (i := (n : Int) % ((ms.map V.int).length : Int)) (Int.emod_nonneg _ (by omega)) (by
            have := Int.emod_lt_of_pos (n : Int) e0
            rw [List.length_map] at this ⊢
            exact this)
          refine ⟨_, _, _, _, rfl, rfl, SqL.of h2, ha, ?_⟩
          walk_at "s"
          · rename_i p hp
            exact q p _ _ _ _ (sm.trans (same_new hp)) (sm.free hp) upd_same
          · rename_i p hp
            exact q p _ _ _ _ (sm.trans (same_new hp)) (sm.free hp) upd_same
        · rename_i p hp
          exact q p _ _ _ _ (sm.trans (same_new hp)) (sm.free hp) upd_same
/-! ### the same, through and through -/
def spSame (n : Nat) : Sp := fun vs H Q _ => ∃ (x y : V) (d : PyData), vs = [x, y] ∧ Dt H x d ∧ Dt H y d ∧ dep d < n ∧ ∀ H', Same H H' → Q (.bl true) H'
theorem ok_same (T : Top w K mg) : ∀ n, FnOk P w K mg base CX0 (n + 1) T.a_law_same T.d_law_same ["answer", "due"] (spSame n) := by
  intro n
  induction n with
  | zero =>
    refine T.F_law_same.ok sc_law_same (fun vs H Q E h => ?_) (fun cdv A outer s H vs Q E hr h => ?_)
    · obtain ⟨x, y, d, rfl, _⟩ := h
      rfl
    · obtain ⟨x, y, d, rfl, hx, hy, hd, q⟩ := h
      omega
  | succ n ih =>
    refine T.F_law_same.ok sc_law_same (fun vs H Q E h => ?_) (fun cdv A outer s H vs Q E hr h => ?_)
    · obtain ⟨x, y, d, rfl, _⟩ := h
      rfl
    · obtain ⟨x, y, d, rfl, hx, hy, hd, q⟩ := h
      have G_law_same := ih
      refine ⟨_, (pss_cons (ps_if (pt_cmpR op_isN (pv 1) pe_non (nomark _))
    (pss_one (ps_ret (pe_cmpR op_isN (pv 0) pe_non (nomark _))))
    pss_nil)
    (pss_cons (ps_if (pt_val (pe_callB call_isi (by rfl) T.m_isinstance (by decide +kernel) (pa_cons (pv 1) (pa_cons (pe_bltn (v := .ty "bool") (u := .type "bool") (by rfl) T.m_bool (by decide +kernel) rfl) pa_nil))))
    (pss_one (ps_ret (pe_and (pe_callB call_isi (by rfl) T.m_isinstance (by decide +kernel) (pa_cons (pv 0) (pa_cons (pe_bltn (v := .ty "bool") (u := .type "bool") (by rfl) T.m_bool (by decide +kernel) rfl) pa_nil))) (pe_one (pe_cmpR op_eq (pv 0) (pv 1) (nomark _))))))
    pss_nil)
    (pss_cons (ps_if (pt_val (pe_callB call_isi (by rfl) T.m_isinstance (by decide +kernel) (pa_cons (pv 1) (pa_cons (pe_bltn (v := .ty "int") (u := .type "int") (by rfl) T.m_int (by decide +kernel) rfl) pa_nil))))
    (pss_one (ps_ret (pe_and (pe_callB call_isi (by rfl) T.m_isinstance (by decide +kernel) (pa_cons (pv 0) (pa_cons (pe_bltn (v := .ty "int") (u := .type "int") (by rfl) T.m_int (by decide +kernel) rfl) pa_nil))) (pe_and (pe_not (pe_callB call_isi (by rfl) T.m_isinstance (by decide +kernel) (pa_cons (pv 0) (pa_cons (pe_bltn (v := .ty "bool") (u := .type "bool") (by rfl) T.m_bool (by decide +kernel) rfl) pa_nil)))) (pe_one (pe_cmpR op_eq (pv 0) (pv 1) (nomark _)))))))
    pss_nil)
    (pss_cons (ps_if (pt_val (pe_callB call_isi (by rfl) T.m_isinstance (by decide +kernel) (pa_cons (pv 1) (pa_cons (pe_bltn (v := .ty "str") (u := .type "str") (by rfl) T.m_str (by decide +kernel) rfl) pa_nil))))
    (pss_one (ps_ret (pe_and (pe_callB call_isi (by rfl) T.m_isinstance (by decide +kernel) (pa_cons (pv 0) (pa_cons (pe_bltn (v := .ty "str") (u := .type "str") (by rfl) T.m_str (by decide +kernel) rfl) pa_nil))) (pe_one (pe_cmpR op_eq (pv 0) (pv 1) (nomark _))))))
    pss_nil)
    (pss_cons (ps_if (pt_val (pe_callB call_isi (by rfl) T.m_isinstance (by decide +kernel) (pa_cons (pv 1) (pa_cons (pe_bltn (v := .ty "dict") (u := .type "dict") (by rfl) T.m_dict (by decide +kernel) rfl) pa_nil)))) pss_never
    pss_nil)
    (pss_cons (ps_if (pt_val (pe_callB call_isi (by rfl) T.m_isinstance (by decide +kernel) (pa_cons (pv 1) (pa_cons (pe_bltn (v := .ty "tuple") (u := .type "tuple") (by rfl) T.m_tuple (by decide +kernel) rfl) pa_nil))))
    (pss_one (ps_if (pt_not (pt_val (pe_callB call_isi (by rfl) T.m_isinstance (by decide +kernel) (pa_cons (pv 0) (pa_cons (pe_bltn (v := .ty "tuple") (u := .type "tuple") (by rfl) T.m_tuple (by decide +kernel) rfl) pa_nil)))))
    (pss_one (ps_ret pe_bl))
    pss_nil))
    (pss_one (ps_if (pt_not (pt_val (pe_callB call_isi (by rfl) T.m_isinstance (by decide +kernel) (pa_cons (pv 0) (pa_cons (pe_bltn (v := .ty "list") (u := .type "list") (by rfl) T.m_list (by decide +kernel) rfl) pa_nil)))))
    (pss_one (ps_ret pe_bl))
    pss_nil)))
    (pss_cons (ps_if (pt_cmpR op_ne (pe_callB call_len_seq (by rfl) T.m_len (by decide +kernel) (pa_cons (pv 0) pa_nil)) (pe_callB call_len_seq (by rfl) T.m_len (by decide +kernel) (pa_cons (pv 1) pa_nil)) (nomark _))
    (pss_one (ps_ret pe_bl))
    pss_nil)
    (pss_cons (ps_for PassesOwn.never rfl (RZ.pi_zipA (by rfl) T.m_zip (pa_cons (pv 0) (pa_cons (pv 1) pa_nil))) (pg_tup rfl (pgs_cons (pg_name (i := 3) sc_law_same.nd rfl (.inl rfl)) (pgs_cons (pg_name (i := 4) sc_law_same.nd rfl (.inl rfl)) pgs_nil)))
    (pss_one (ps_if (pt_not (pt_val (pe_call G_law_same (hr.mono (by omega)) (by rfl) T.m_law_same T.F_law_same.kp T.b_law_same .nil pass0 (pa_cons (pv 3) (pa_cons (pv 4) pa_nil)))))
    (pss_one (ps_ret pe_bl))
    pss_nil)))
    (pss_one (ps_ret pe_bl)))))))))), ?_⟩
      cases d with
      | none =>
        unfold Dt at hx hy
        subst hx hy
        walk_at "s"
        show Q (.bl (decide (V.non = V.non))) H
        rw [decide_eq_true rfl]
        exact q _ (Same.refl H)
      | bool b =>
        unfold Dt at hx hy
        subst hx hy
        walk_at "s"
        show Q (.bl (decide (V.bl b = V.bl b))) H
        rw [decide_eq_true rfl]
        exact q _ (Same.refl H)
      | int b =>
        unfold Dt at hx hy
        subst hx hy
        walk_at "s"
        show Q (.bl (decide (V.int b = V.int b))) H
        rw [decide_eq_true rfl]
        exact q _ (Same.refl H)
      | str b =>
        unfold Dt at hx hy
        subst hx hy
        walk_at "s"
        show Q (.bl (decide (V.str b = V.str b))) H
        rw [decide_eq_true rfl]
        exact q _ (Same.refl H)
      | list ds =>
        unfold Dt at hx hy
        obtain ⟨a, xs, rfl, ha, hxs⟩ := hx
        obtain ⟨b, ys, rfl, hb, hys⟩ := hy
        have el : xs.length = ys.length := by rw [da_len hxs, da_len hys]
        have hd' : depAll ds + 1 < n + 1 := by
          unfold dep at hd
          exact hd
        walk_at "s"
        · rename_i e
          rw [el] at e
          exact absurd rfl e
        · refine ⟨a, b, xs, ys, rfl, .inl ⟨SqL.of ha, SqL.of hb, ?_⟩⟩
          refine RZ.for_zipL el (fun i σ H1 => ∃ v2 v3 v4, σ = [some (.ref a), some (.ref b), v2, v3, v4] ∧ Same H H1) ⟨_, _, _, rfl, Same.refl H⟩ ?_ ?_ ?_
          · intro i σ H1 hP
            obtain ⟨v2, v3, v4, rfl, sm⟩ := hP
            exact ⟨SqL.of (sm _ _ ha), SqL.of (sm _ _ hb)⟩
          · intro i x y t σ H1 hx hy hP ht
            obtain ⟨v2, v3, v4, rfl, sm⟩ := hP
            have hid : i < ds.length := by
              have := (List.getElem?_eq_some_iff.mp hx).1
              rw [da_len hxs] at this
              exact this
            have hdi : ds[i]? = some ds[i] := List.getElem?_eq_getElem hid
            obtain ⟨x', ex, hx'⟩ := da_get hxs hdi
            obtain ⟨y', ey, hy'⟩ := da_get hys hdi
            rw [hx] at ex
            rw [hy] at ey
            cases ex
            cases ey
            have sm2 := sm.trans (same_new (o := .tup [x, y]) ht)
            walk_at "s"
            refine ⟨x, y, ds[i], rfl, Dt.same sm2 _ _ hx', Dt.same sm2 _ _ hy', ?_, fun H2 s2 => ?_⟩
            · have := dep_get hdi
              omega
            · walk_at "s"
              exact ⟨_, _, _, rfl, sm2.trans s2⟩
          · intro σ H1 hP
            obtain ⟨v2, v3, v4, rfl, sm⟩ := hP
            walk_at "s"
            exact q _ sm
      | tuple ds =>
        unfold Dt at hx hy
        obtain ⟨a, xs, rfl, ha, hxs⟩ := hx
        obtain ⟨b, ys, rfl, hb, hys⟩ := hy
        have el : xs.length = ys.length := by rw [da_len hxs, da_len hys]
        have hd' : depAll ds + 1 < n + 1 := by
          unfold dep at hd
          exact hd
        walk_at "s"
        · rename_i e
          rw [el] at e
          exact absurd rfl e
        · refine ⟨a, b, xs, ys, rfl, .inr ⟨SqT.of ha, SqT.of hb, ?_⟩⟩
          refine RZ.for_zipT el (fun i σ H1 => ∃ v2 v3 v4, σ = [some (.ref a), some (.ref b), v2, v3, v4] ∧ Same H H1) ⟨_, _, _, rfl, Same.refl H⟩ ?_ ?_ ?_
          · intro i σ H1 hP
            obtain ⟨v2, v3, v4, rfl, sm⟩ := hP
            exact ⟨SqT.of (sm _ _ ha), SqT.of (sm _ _ hb)⟩
          · intro i x y t σ H1 hx hy hP ht
            obtain ⟨v2, v3, v4, rfl, sm⟩ := hP
            have hid : i < ds.length := by
              have := (List.getElem?_eq_some_iff.mp hx).1
              rw [da_len hxs] at this
              exact this
            have hdi : ds[i]? = some ds[i] := List.getElem?_eq_getElem hid
            obtain ⟨x', ex, hx'⟩ := da_get hxs hdi
            obtain ⟨y', ey, hy'⟩ := da_get hys hdi
            rw [hx] at ex
            rw [hy] at ey
            cases ex
            cases ey
            have sm2 := sm.trans (same_new (o := .tup [x, y]) ht)
            walk_at "s"
            refine ⟨x, y, ds[i], rfl, Dt.same sm2 _ _ hx', Dt.same sm2 _ _ hy', ?_, fun H2 s2 => ?_⟩
            · have := dep_get hdi
              omega
            · walk_at "s"
              exact ⟨_, _, _, rfl, sm2.trans s2⟩
          · intro σ H1 hP
            obtain ⟨v2, v3, v4, rfl, sm⟩ := hP
            walk_at "s"
            exact q _ sm
      | dict ds =>
        unfold Dt at hx
        exact hx.elim
end
end K15W
set_option Elab.async false
set_option linter.all false
set_option maxRecDepth 100000
set_option maxHeartbeats 4000000
namespace K15W
open PySem PySem.Spec PyProof.Rows L2 TL LW NT
local macro_rules | `(tactic| walk_at "ne") => `(tactic| first
  | assumption
  | exact Ne.symm (by assumption)
  | exact ne_of_none (by assumption) (by assumption)
  | exact (ne_of_none (by assumption) (by assumption)).symm
  | (apply ne_of_none; (case h' => assumption); (case h => walk_at "hp"))
  | (apply Ne.symm; apply ne_of_none; (case h' => assumption); (case h => walk_at "hp")))
local macro_rules | `(tactic| walk_at "hp") => `(tactic| first
  | assumption
  | exact upd_same
  | exact hp_new (by assumption) (by assumption)
  | (apply hp_new; (case n => assumption); (case h => walk_at "hp"))
  | (refine (upd_ne ?ne).trans ?hp; (case ne => walk_at "ne"); (case hp => walk_at "hp")))
local macro_rules | `(tactic| walk_at "sq") => `(tactic| first
  | ((with_reducible show SqL _ _ _ _); assumption)
  | ((with_reducible show SqT _ _ _ _); assumption)
  | exact SqL.of (by assumption)
  | exact SqL.of upd_same
  | exact SqT.of (by assumption)
  | exact SqT.of upd_same
  | (apply SqL.of; walk_at "hp")
  | (apply SqT.of; walk_at "hp"))
local macro_rules | `(tactic| walk_at "len") => `(tactic| first
  | assumption
  | exact sz_small (by omega)
  | exact sz_less (by omega)
  | decide
  | (refine sz_small ?_; simp only [List.length_append, List.length_cons, List.length_nil, List.length_map, str_len]; omega)
  | (refine sz_less ?_; simp only [List.length_append, List.length_cons, List.length_nil, List.length_map, str_len]; omega))
local macro_rules | `(tactic| walk_at "cond") => `(tactic| first
  | omega
  | (split <;> omega)
  | assumption
  | exact .inl ⟨by omega, by omega⟩
  | exact .inr ⟨by omega, by omega⟩
  | exact ⟨by omega, by omega⟩
  | (show (0 : Int) < _; omega)
  | (show (0 : Int) < _; decide +kernel)
  | exact ⟨by omega, by omega, by decide⟩
  | walk_at "len"
  | rfl
  | (show CMulW _ _; unfold CMulW; decide +kernel)
  | exact ⟨_, rfl⟩
  | decide +kernel
  | exact ⟨_, by walk_at "sq"⟩
  | exact .inl ⟨rfl, _, by walk_at "sq"⟩)
local macro_rules | `(tactic| walk_at "at") => `(tactic| first
  | assumption
  | exact atI_nat (by assumption)
  | exact atI_last _ _
  | exact atI_nat (j := 0) rfl
  | exact atI_nat (j := 1) rfl
  | exact atI_nat (j := 2) rfl
  | exact atI_nat (j := 3) rfl
  | exact atI_nat (j := 4) rfl)
local macro_rules | `(tactic| walk_at "ix") => `(tactic| first
  | assumption
  | (with_reducible exact ixN_0 (by simp; done))
  | (with_reducible exact ixN_1 (by simp; done))
  | (with_reducible exact ixN_2 (by simp; done))
  | (with_reducible exact Evl.ixN_nat (by assumption))
  | (with_reducible exact Evl.ixN_nat (by omega)))
local macro_rules | `(tactic| walk_at "v") => `(tactic| first
  | exact val_var rfl
  | (with_reducible exact val_c)
  | (with_reducible apply val_orV; (case ha => walk_at "v"); (case hb => walk_at "v"))
  | (with_reducible apply val_andV; (case ha => walk_at "v"); (case hb => walk_at "v"))
  | (with_reducible apply val_notV; walk_at "v")
  | (with_reducible apply val_ifS; (case h => walk_at "w"); (case ha => walk_at "v"); (case hb => walk_at "v"))
  | (with_reducible apply val_ifI; (case h => walk_at "w"); (case ha => walk_at "v"); (case hb => walk_at "v"))
  | (with_reducible apply val_ifB; (case h => walk_at "w"); (case ha => walk_at "v"); (case hb => walk_at "v"))
  | (with_reducible apply val_eqS; (case ha => walk_at "v"); (case hb => walk_at "v"))
  | (with_reducible apply val_eqI; (case ha => walk_at "v"); (case hb => walk_at "v"))
  | (with_reducible apply val_neS; (case ha => walk_at "v"); (case hb => walk_at "v"))
  | (with_reducible apply val_neI; (case ha => walk_at "v"); (case hb => walk_at "v"))
  | (with_reducible apply val_op; (case ha => walk_at "v"); (case hb => walk_at "v"); (case hr => exact fun Q q => ⟨_, _, rfl, rfl, q⟩)))
local macro_rules | `(tactic| walk_at "w") => `(tactic| first
  | (with_reducible apply ans_or2; (case h1 => walk_at "w"); (case h2 => walk_at "w"))
  | (with_reducible apply ans_and2; (case h1 => walk_at "w"); (case h2 => walk_at "w"))
  | (with_reducible apply ans_not; walk_at "w")
  | (with_reducible apply ans_test; walk_at "v")
  | (with_reducible apply ans_val; walk_at "v"))
local macro_rules | `(tactic| walk_at "s1") => `(tactic| first
  | (with_reducible refine go_c ?_)
  | (with_reducible apply go_pick; (case hs => walk_at "hp"); (case h0 => walk_at "cond"); (case h1 => walk_at "cond"); (case' q => intro k a b c h0 h1))
  | (with_reducible refine go_nil ?_)
  | (with_reducible refine go_cons ?_)
  | (with_reducible refine go_call ?_)
  | (with_reducible refine go_cb ?_)
  | (with_reducible refine go_next ?_)
  | (with_reducible refine go_cont ?_)
  | (with_reducible refine go_ret ?_)
  | (with_reducible refine go_name ?_)
  | (with_reducible refine go_seq ?_)
  | (with_reducible refine go_asg ?_)
  | (with_reducible apply go_or; (case h => walk_at "v"))
  | (with_reducible apply go_and; (case h => walk_at "v"))
  | (with_reducible apply go_andL; (case h => walk_at "v"); (case' h1 => intro e); (case' h2 => intro e))
  | (with_reducible apply go_orL; (case h => walk_at "v"); (case' h1 => intro e); (case' h2 => intro e))
  | (with_reducible apply go_ifE; (case h => walk_at "v"))
  | (with_reducible apply go_ifOr; (case h => walk_at "w"); (case' h1 => intro e); (case' h2 => intro e))
  | (with_reducible apply go_ifAnd; (case h => walk_at "w"); (case' h1 => intro e); (case' h2 => intro e))
  | (with_reducible refine go_min ?_)
  | refine ⟨_, rfl, ?_⟩
  | refine ⟨_, _, rfl, rfl, ?_⟩
  | (refine And.intro ?cc ?_; (case cc => walk_at "cond"))
  | refine ⟨_, _, _, _, rfl, rfl, by walk_at "sq", by walk_at "at", ?_⟩
  | refine ⟨_, _, _, _, rfl, rfl, by walk_at "hp", by walk_at "ix", ?_⟩
  | refine ⟨_, _, _, _, rfl, rfl, by walk_at "hp", by walk_at "hp", by walk_at "len", ?_⟩
  | refine ⟨_, _, _, rfl, rfl, by walk_at "len", by walk_at "at", ?_⟩
  | refine ⟨_, _, _, rfl, rfl, by walk_at "hp", by walk_at "len", ?_⟩
  | refine ⟨_, _, _, rfl, rfl, by walk_at "hp", by walk_at "at", ?_⟩
  | refine ⟨_, _, rfl, rfl, by walk_at "sq", ?_⟩
  | refine ⟨_, _, rfl, rfl, by walk_at "len", ?_⟩
  | refine ⟨_, _, rfl, by walk_at "sq", ?_⟩
  | refine ⟨_, _, rfl, .inl (by walk_at "sq"), ?_⟩
  | refine ⟨_, _, rfl, .inr (by walk_at "sq"), ?_⟩
  | refine ⟨_, _, rfl, by walk_at "sq", rfl, ?_⟩
  | refine ⟨_, fun _ _ h => h, ?_⟩
  | refine ⟨_, _, rfl, ?_⟩
  | refine .inl ⟨_, rfl, ?_⟩
  | refine ⟨_, _, .type "int", .type _, true, rfl, ClsV.ty _, .base (.int _), kit_ty (by decide +kernel), ?_⟩
  | refine ⟨_, _, .type "int", .type _, false, rfl, ClsV.ty _, .base (.int _), kit_ty (by decide +kernel), ?_⟩
  | refine ⟨_, _, .type "bool", .type _, true, rfl, ClsV.ty _, .base (.bl _), kit_ty (by decide +kernel), ?_⟩
  | refine ⟨_, _, .type "bool", .type _, false, rfl, ClsV.ty _, .base (.bl _), kit_ty (by decide +kernel), ?_⟩
  | refine ⟨_, _, .type "str", .type _, true, rfl, ClsV.ty _, .base (.str _), kit_ty (by decide +kernel), ?_⟩
  | refine ⟨_, _, .type "str", .type _, false, rfl, ClsV.ty _, .base (.str _), kit_ty (by decide +kernel), ?_⟩
  | refine ⟨_, _, .type "NoneType", .type _, true, rfl, ClsV.ty _, .base (.non), kit_ty (by decide +kernel), ?_⟩
  | refine ⟨_, _, .type "NoneType", .type _, false, rfl, ClsV.ty _, .base (.non), kit_ty (by decide +kernel), ?_⟩
  | refine ⟨_, _, .type "list", .type _, true, rfl, ClsV.ty _, .base (.lst (by walk_at "hp")), kit_ty (by decide +kernel), ?_⟩
  | refine ⟨_, _, .type "list", .type _, false, rfl, ClsV.ty _, .base (.lst (by walk_at "hp")), kit_ty (by decide +kernel), ?_⟩
  | refine ⟨_, _, .type "tuple", .type _, true, rfl, ClsV.ty _, .base (.tup (by walk_at "hp")), kit_ty (by decide +kernel), ?_⟩
  | refine ⟨_, _, .type "tuple", .type _, false, rfl, ClsV.ty _, .base (.tup (by walk_at "hp")), kit_ty (by decide +kernel), ?_⟩
  | (refine fun (p : Addr) (hp : _ = none) => ?_)
  | refine iteT ?_
  | refine iteF ?_
  | refine iteD (fun _ => ?_) (fun e => absurd rfl e)
  | refine iteS (fun e => ?_) (fun e => ?_)
  | refine iteI (fun e => ?_) (fun e => ?_)
  | refine iteSn (fun e => ?_) (fun e => ?_)
  | refine iteIn (fun e => ?_) (fun e => ?_)
  | refine iteD (fun e => ?_) (fun e => ?_)
  | refine iteDn (fun e => ?_) (fun e => ?_)
  | refine ite2 (fun e => ?_) (fun e => ?_))
local macro_rules | `(tactic| walk_at "s") => `(tactic| repeat' (first
  | (with_reducible refine go_c ?_)
  | (with_reducible apply go_pick; (case hs => walk_at "hp"); (case h0 => walk_at "cond"); (case h1 => walk_at "cond"); (case' q => intro k a b c h0 h1))
  | (with_reducible refine go_nil ?_)
  | (with_reducible refine go_cons ?_)
  | (with_reducible refine go_call ?_)
  | (with_reducible refine go_cb ?_)
  | (with_reducible refine go_next ?_)
  | (with_reducible refine go_cont ?_)
  | (with_reducible refine go_ret ?_)
  | (with_reducible refine go_name ?_)
  | (with_reducible refine go_seq ?_)
  | (with_reducible refine go_asg ?_)
  | (with_reducible apply go_or; (case h => walk_at "v"))
  | (with_reducible apply go_and; (case h => walk_at "v"))
  | (with_reducible apply go_andL; (case h => walk_at "v"); (case' h1 => intro e); (case' h2 => intro e))
  | (with_reducible apply go_orL; (case h => walk_at "v"); (case' h1 => intro e); (case' h2 => intro e))
  | (with_reducible apply go_ifE; (case h => walk_at "v"))
  | (with_reducible apply go_ifOr; (case h => walk_at "w"); (case' h1 => intro e); (case' h2 => intro e))
  | (with_reducible apply go_ifAnd; (case h => walk_at "w"); (case' h1 => intro e); (case' h2 => intro e))
  | (with_reducible refine go_min ?_)
  | refine ⟨_, rfl, ?_⟩
  | refine ⟨_, _, rfl, rfl, ?_⟩
  | (refine And.intro ?cc ?_; (case cc => walk_at "cond"))
  | refine ⟨_, _, _, _, rfl, rfl, by walk_at "sq", by walk_at "at", ?_⟩
  | refine ⟨_, _, _, _, rfl, rfl, by walk_at "hp", by walk_at "ix", ?_⟩
  | refine ⟨_, _, _, _, rfl, rfl, by walk_at "hp", by walk_at "hp", by walk_at "len", ?_⟩
  | refine ⟨_, _, _, rfl, rfl, by walk_at "len", by walk_at "at", ?_⟩
  | refine ⟨_, _, _, rfl, rfl, by walk_at "hp", by walk_at "len", ?_⟩
  | refine ⟨_, _, _, rfl, rfl, by walk_at "hp", by walk_at "at", ?_⟩
  | refine ⟨_, _, rfl, rfl, by walk_at "sq", ?_⟩
  | refine ⟨_, _, rfl, rfl, by walk_at "len", ?_⟩
  | refine ⟨_, _, rfl, by walk_at "sq", ?_⟩
  | refine ⟨_, _, rfl, .inl (by walk_at "sq"), ?_⟩
  | refine ⟨_, _, rfl, .inr (by walk_at "sq"), ?_⟩
  | refine ⟨_, _, rfl, by walk_at "sq", rfl, ?_⟩
  | refine ⟨_, fun _ _ h => h, ?_⟩
  | refine ⟨_, _, rfl, ?_⟩
  | refine .inl ⟨_, rfl, ?_⟩
  | refine ⟨_, _, .type "int", .type _, true, rfl, ClsV.ty _, .base (.int _), kit_ty (by decide +kernel), ?_⟩
  | refine ⟨_, _, .type "int", .type _, false, rfl, ClsV.ty _, .base (.int _), kit_ty (by decide +kernel), ?_⟩
  | refine ⟨_, _, .type "bool", .type _, true, rfl, ClsV.ty _, .base (.bl _), kit_ty (by decide +kernel), ?_⟩
  | refine ⟨_, _, .type "bool", .type _, false, rfl, ClsV.ty _, .base (.bl _), kit_ty (by decide +kernel), ?_⟩
  | refine ⟨_, _, .type "str", .type _, true, rfl, ClsV.ty _, .base (.str _), kit_ty (by decide +kernel), ?_⟩
  | refine ⟨_, _, .type "str", .type _, false, rfl, ClsV.ty _, .base (.str _), kit_ty (by decide +kernel), ?_⟩
  | refine ⟨_, _, .type "NoneType", .type _, true, rfl, ClsV.ty _, .base (.non), kit_ty (by decide +kernel), ?_⟩
  | refine ⟨_, _, .type "NoneType", .type _, false, rfl, ClsV.ty _, .base (.non), kit_ty (by decide +kernel), ?_⟩
  | refine ⟨_, _, .type "list", .type _, true, rfl, ClsV.ty _, .base (.lst (by walk_at "hp")), kit_ty (by decide +kernel), ?_⟩
  | refine ⟨_, _, .type "list", .type _, false, rfl, ClsV.ty _, .base (.lst (by walk_at "hp")), kit_ty (by decide +kernel), ?_⟩
  | refine ⟨_, _, .type "tuple", .type _, true, rfl, ClsV.ty _, .base (.tup (by walk_at "hp")), kit_ty (by decide +kernel), ?_⟩
  | refine ⟨_, _, .type "tuple", .type _, false, rfl, ClsV.ty _, .base (.tup (by walk_at "hp")), kit_ty (by decide +kernel), ?_⟩
  | (refine fun (p : Addr) (hp : _ = none) => ?_)
  | refine iteT ?_
  | refine iteF ?_
  | refine iteD (fun _ => ?_) (fun e => absurd rfl e)
  | refine iteS (fun e => ?_) (fun e => ?_)
  | refine iteI (fun e => ?_) (fun e => ?_)
  | refine iteSn (fun e => ?_) (fun e => ?_)
  | refine iteIn (fun e => ?_) (fun e => ?_)
  | refine iteD (fun e => ?_) (fun e => ?_)
  | refine iteDn (fun e => ?_) (fun e => ?_)
  | refine ite2 (fun e => ?_) (fun e => ?_)))

section
variable {P : Program} {w : World} {K : PySem.W.Frag} {mg : Str → Option Value} {base : Heap}
/-! ### bound -/
def spBound : Sp := fun vs H Q _ => ∃ n : Int, vs = [.str "nodes", .int n] ∧ n ≤ 400 ∧ Q .non H
theorem ok_bound (T : Top w K mg) : FnOk P w K mg base CX0 1 T.a_bound T.d_bound ["what", "number"] spBound := by
  refine T.F_bound.ok sc_bound (fun vs H Q E h => ?_) (fun cdv A outer s H vs Q E hr h => ?_)
  · obtain ⟨n, rfl, _⟩ := h
    rfl
  · obtain ⟨n, rfl, hn, q⟩ := h
    refine ⟨_, (pss_one (ps_if (pt_cmpR op_gt (pv 1) (pe_ix ix_kdict (pe_glob (v := .ref T.a_LIMITS) rfl T.m_LIMITS rfl) (pv 0) (fun _ _ => rfl)) (nomark _)) pss_never
    pss_nil)), ?_⟩
    walk_at "s"
    refine ⟨_, _, _, rfl, rfl, T.k_LIMITS_nodes, ?_⟩
    walk_at "s"
    · omega
    · exact q
end
end K15W
set_option Elab.async false
set_option linter.all false
set_option maxRecDepth 100000
set_option maxHeartbeats 4000000
namespace K15W
open PySem PySem.Spec PyProof.Rows L2 TL LW NT
local macro_rules | `(tactic| walk_at "ne") => `(tactic| first
  | assumption
  | exact Ne.symm (by assumption)
  | exact ne_of_none (by assumption) (by assumption)
  | exact (ne_of_none (by assumption) (by assumption)).symm
  | (apply ne_of_none; (case h' => assumption); (case h => walk_at "hp"))
  | (apply Ne.symm; apply ne_of_none; (case h' => assumption); (case h => walk_at "hp")))
local macro_rules | `(tactic| walk_at "hp") => `(tactic| first
  | assumption
  | exact upd_same
  | exact hp_new (by assumption) (by assumption)
  | (apply hp_new; (case n => assumption); (case h => walk_at "hp"))
  | (refine (upd_ne ?ne).trans ?hp; (case ne => walk_at "ne"); (case hp => walk_at "hp")))
local macro_rules | `(tactic| walk_at "sq") => `(tactic| first
  | ((with_reducible show SqL _ _ _ _); assumption)
  | ((with_reducible show SqT _ _ _ _); assumption)
  | exact SqL.of (by assumption)
  | exact SqL.of upd_same
  | exact SqT.of (by assumption)
  | exact SqT.of upd_same
  | (apply SqL.of; walk_at "hp")
  | (apply SqT.of; walk_at "hp"))
local macro_rules | `(tactic| walk_at "len") => `(tactic| first
  | assumption
  | exact sz_small (by omega)
  | exact sz_less (by omega)
  | decide
  | (refine sz_small ?_; simp only [List.length_append, List.length_cons, List.length_nil, List.length_map, str_len]; omega)
  | (refine sz_less ?_; simp only [List.length_append, List.length_cons, List.length_nil, List.length_map, str_len]; omega))
local macro_rules | `(tactic| walk_at "cond") => `(tactic| first
  | omega
  | (split <;> omega)
  | assumption
  | exact .inl ⟨by omega, by omega⟩
  | exact .inr ⟨by omega, by omega⟩
  | exact ⟨by omega, by omega⟩
  | (show (0 : Int) < _; omega)
  | (show (0 : Int) < _; decide +kernel)
  | exact ⟨by omega, by omega, by decide⟩
  | walk_at "len"
  | rfl
  | (show CMulW _ _; unfold CMulW; decide +kernel)
  | exact ⟨_, rfl⟩
  | decide +kernel
  | exact ⟨_, by walk_at "sq"⟩
  | exact .inl ⟨rfl, _, by walk_at "sq"⟩)
local macro_rules | `(tactic| walk_at "at") => `(tactic| first
  | assumption
  | exact atI_nat (by assumption)
  | exact atI_last _ _
  | exact atI_nat (j := 0) rfl
  | exact atI_nat (j := 1) rfl
  | exact atI_nat (j := 2) rfl
  | exact atI_nat (j := 3) rfl
  | exact atI_nat (j := 4) rfl)
local macro_rules | `(tactic| walk_at "ix") => `(tactic| first
  | assumption
  | (with_reducible exact ixN_0 (by simp; done))
  | (with_reducible exact ixN_1 (by simp; done))
  | (with_reducible exact ixN_2 (by simp; done))
  | (with_reducible exact Evl.ixN_nat (by assumption))
  | (with_reducible exact Evl.ixN_nat (by omega)))
local macro_rules | `(tactic| walk_at "v") => `(tactic| first
  | exact val_var rfl
  | (with_reducible exact val_c)
  | (with_reducible apply val_orV; (case ha => walk_at "v"); (case hb => walk_at "v"))
  | (with_reducible apply val_andV; (case ha => walk_at "v"); (case hb => walk_at "v"))
  | (with_reducible apply val_notV; walk_at "v")
  | (with_reducible apply val_ifS; (case h => walk_at "w"); (case ha => walk_at "v"); (case hb => walk_at "v"))
  | (with_reducible apply val_ifI; (case h => walk_at "w"); (case ha => walk_at "v"); (case hb => walk_at "v"))
  | (with_reducible apply val_ifB; (case h => walk_at "w"); (case ha => walk_at "v"); (case hb => walk_at "v"))
  | (with_reducible apply val_eqS; (case ha => walk_at "v"); (case hb => walk_at "v"))
  | (with_reducible apply val_eqI; (case ha => walk_at "v"); (case hb => walk_at "v"))
  | (with_reducible apply val_neS; (case ha => walk_at "v"); (case hb => walk_at "v"))
  | (with_reducible apply val_neI; (case ha => walk_at "v"); (case hb => walk_at "v"))
  | (with_reducible apply val_op; (case ha => walk_at "v"); (case hb => walk_at "v"); (case hr => exact fun Q q => ⟨_, _, rfl, rfl, q⟩)))
local macro_rules | `(tactic| walk_at "w") => `(tactic| first
  | (with_reducible apply ans_or2; (case h1 => walk_at "w"); (case h2 => walk_at "w"))
  | (with_reducible apply ans_and2; (case h1 => walk_at "w"); (case h2 => walk_at "w"))
  | (with_reducible apply ans_not; walk_at "w")
  | (with_reducible apply ans_test; walk_at "v")
  | (with_reducible apply ans_val; walk_at "v"))
local macro_rules | `(tactic| walk_at "s1") => `(tactic| first
  | (with_reducible refine go_c ?_)
  | (with_reducible apply go_pick; (case hs => walk_at "hp"); (case h0 => walk_at "cond"); (case h1 => walk_at "cond"); (case' q => intro k a b c h0 h1))
  | (with_reducible refine go_nil ?_)
  | (with_reducible refine go_cons ?_)
  | (with_reducible refine go_call ?_)
  | (with_reducible refine go_cb ?_)
  | (with_reducible refine go_next ?_)
  | (with_reducible refine go_cont ?_)
  | (with_reducible refine go_ret ?_)
  | (with_reducible refine go_name ?_)
  | (with_reducible refine go_seq ?_)
  | (with_reducible refine go_asg ?_)
  | (with_reducible apply go_or; (case h => walk_at "v"))
  | (with_reducible apply go_and; (case h => walk_at "v"))
  | (with_reducible apply go_andL; (case h => walk_at "v"); (case' h1 => intro e); (case' h2 => intro e))
  | (with_reducible apply go_orL; (case h => walk_at "v"); (case' h1 => intro e); (case' h2 => intro e))
  | (with_reducible apply go_ifE; (case h => walk_at "v"))
  | (with_reducible apply go_ifOr; (case h => walk_at "w"); (case' h1 => intro e); (case' h2 => intro e))
  | (with_reducible apply go_ifAnd; (case h => walk_at "w"); (case' h1 => intro e); (case' h2 => intro e))
  | (with_reducible refine go_min ?_)
  | refine ⟨_, rfl, ?_⟩
  | refine ⟨_, _, rfl, rfl, ?_⟩
  | (refine And.intro ?cc ?_; (case cc => walk_at "cond"))
  | refine ⟨_, _, _, _, rfl, rfl, by walk_at "sq", by walk_at "at", ?_⟩
  | refine ⟨_, _, _, _, rfl, rfl, by walk_at "hp", by walk_at "ix", ?_⟩
  | refine ⟨_, _, _, _, rfl, rfl, by walk_at "hp", by walk_at "hp", by walk_at "len", ?_⟩
  | refine ⟨_, _, _, rfl, rfl, by walk_at "len", by walk_at "at", ?_⟩
  | refine ⟨_, _, _, rfl, rfl, by walk_at "hp", by walk_at "len", ?_⟩
  | refine ⟨_, _, _, rfl, rfl, by walk_at "hp", by walk_at "at", ?_⟩
  | refine ⟨_, _, rfl, rfl, by walk_at "sq", ?_⟩
  | refine ⟨_, _, rfl, rfl, by walk_at "len", ?_⟩
  | refine ⟨_, _, rfl, by walk_at "sq", ?_⟩
  | refine ⟨_, _, rfl, .inl (by walk_at "sq"), ?_⟩
  | refine ⟨_, _, rfl, .inr (by walk_at "sq"), ?_⟩
  | refine ⟨_, _, rfl, by walk_at "sq", rfl, ?_⟩
  | refine ⟨_, fun _ _ h => h, ?_⟩
  | refine ⟨_, _, rfl, ?_⟩
  | refine .inl ⟨_, rfl, ?_⟩
  | refine ⟨_, _, .type "int", .type _, true, rfl, ClsV.ty _, .base (.int _), kit_ty (by decide +kernel), ?_⟩
  | refine ⟨_, _, .type "int", .type _, false, rfl, ClsV.ty _, .base (.int _), kit_ty (by decide +kernel), ?_⟩
  | refine ⟨_, _, .type "bool", .type _, true, rfl, ClsV.ty _, .base (.bl _), kit_ty (by decide +kernel), ?_⟩
  | refine ⟨_, _, .type "bool", .type _, false, rfl, ClsV.ty _, .base (.bl _), kit_ty (by decide +kernel), ?_⟩
  | refine ⟨_, _, .type "str", .type _, true, rfl, ClsV.ty _, .base (.str _), kit_ty (by decide +kernel), ?_⟩
  | refine ⟨_, _, .type "str", .type _, false, rfl, ClsV.ty _, .base (.str _), kit_ty (by decide +kernel), ?_⟩
  | refine ⟨_, _, .type "NoneType", .type _, true, rfl, ClsV.ty _, .base (.non), kit_ty (by decide +kernel), ?_⟩
  | refine ⟨_, _, .type "NoneType", .type _, false, rfl, ClsV.ty _, .base (.non), kit_ty (by decide +kernel), ?_⟩
  | refine ⟨_, _, .type "list", .type _, true, rfl, ClsV.ty _, .base (.lst (by walk_at "hp")), kit_ty (by decide +kernel), ?_⟩
  | refine ⟨_, _, .type "list", .type _, false, rfl, ClsV.ty _, .base (.lst (by walk_at "hp")), kit_ty (by decide +kernel), ?_⟩
  | refine ⟨_, _, .type "tuple", .type _, true, rfl, ClsV.ty _, .base (.tup (by walk_at "hp")), kit_ty (by decide +kernel), ?_⟩
  | refine ⟨_, _, .type "tuple", .type _, false, rfl, ClsV.ty _, .base (.tup (by walk_at "hp")), kit_ty (by decide +kernel), ?_⟩
  | (refine fun (p : Addr) (hp : _ = none) => ?_)
  | refine iteT ?_
  | refine iteF ?_
  | refine iteD (fun _ => ?_) (fun e => absurd rfl e)
  | refine iteS (fun e => ?_) (fun e => ?_)
  | refine iteI (fun e => ?_) (fun e => ?_)
  | refine iteSn (fun e => ?_) (fun e => ?_)
  | refine iteIn (fun e => ?_) (fun e => ?_)
  | refine iteD (fun e => ?_) (fun e => ?_)
  | refine iteDn (fun e => ?_) (fun e => ?_)
  | refine ite2 (fun e => ?_) (fun e => ?_))
local macro_rules | `(tactic| walk_at "s") => `(tactic| repeat' (first
  | (with_reducible refine go_c ?_)
  | (with_reducible apply go_pick; (case hs => walk_at "hp"); (case h0 => walk_at "cond"); (case h1 => walk_at "cond"); (case' q => intro k a b c h0 h1))
  | (with_reducible refine go_nil ?_)
  | (with_reducible refine go_cons ?_)
  | (with_reducible refine go_call ?_)
  | (with_reducible refine go_cb ?_)
  | (with_reducible refine go_next ?_)
  | (with_reducible refine go_cont ?_)
  | (with_reducible refine go_ret ?_)
  | (with_reducible refine go_name ?_)
  | (with_reducible refine go_seq ?_)
  | (with_reducible refine go_asg ?_)
  | (with_reducible apply go_or; (case h => walk_at "v"))
  | (with_reducible apply go_and; (case h => walk_at "v"))
  | (with_reducible apply go_andL; (case h => walk_at "v"); (case' h1 => intro e); (case' h2 => intro e))
  | (with_reducible apply go_orL; (case h => walk_at "v"); (case' h1 => intro e); (case' h2 => intro e))
  | (with_reducible apply go_ifE; (case h => walk_at "v"))
  | (with_reducible apply go_ifOr; (case h => walk_at "w"); (case' h1 => intro e); (case' h2 => intro e))
  | (with_reducible apply go_ifAnd; (case h => walk_at "w"); (case' h1 => intro e); (case' h2 => intro e))
  | (with_reducible refine go_min ?_)
  | refine ⟨_, rfl, ?_⟩
  | refine ⟨_, _, rfl, rfl, ?_⟩
  | (refine And.intro ?cc ?_; (case cc => walk_at "cond"))
  | refine ⟨_, _, _, _, rfl, rfl, by walk_at "sq", by walk_at "at", ?_⟩
  | refine ⟨_, _, _, _, rfl, rfl, by walk_at "hp", by walk_at "ix", ?_⟩
  | refine ⟨_, _, _, _, rfl, rfl, by walk_at "hp", by walk_at "hp", by walk_at "len", ?_⟩
  | refine ⟨_, _, _, rfl, rfl, by walk_at "len", by walk_at "at", ?_⟩
  | refine ⟨_, _, _, rfl, rfl, by walk_at "hp", by walk_at "len", ?_⟩
  | refine ⟨_, _, _, rfl, rfl, by walk_at "hp", by walk_at "at", ?_⟩
  | refine ⟨_, _, rfl, rfl, by walk_at "sq", ?_⟩
  | refine ⟨_, _, rfl, rfl, by walk_at "len", ?_⟩
  | refine ⟨_, _, rfl, by walk_at "sq", ?_⟩
  | refine ⟨_, _, rfl, .inl (by walk_at "sq"), ?_⟩
  | refine ⟨_, _, rfl, .inr (by walk_at "sq"), ?_⟩
  | refine ⟨_, _, rfl, by walk_at "sq", rfl, ?_⟩
  | refine ⟨_, fun _ _ h => h, ?_⟩
  | refine ⟨_, _, rfl, ?_⟩
  | refine .inl ⟨_, rfl, ?_⟩
  | refine ⟨_, _, .type "int", .type _, true, rfl, ClsV.ty _, .base (.int _), kit_ty (by decide +kernel), ?_⟩
  | refine ⟨_, _, .type "int", .type _, false, rfl, ClsV.ty _, .base (.int _), kit_ty (by decide +kernel), ?_⟩
  | refine ⟨_, _, .type "bool", .type _, true, rfl, ClsV.ty _, .base (.bl _), kit_ty (by decide +kernel), ?_⟩
  | refine ⟨_, _, .type "bool", .type _, false, rfl, ClsV.ty _, .base (.bl _), kit_ty (by decide +kernel), ?_⟩
  | refine ⟨_, _, .type "str", .type _, true, rfl, ClsV.ty _, .base (.str _), kit_ty (by decide +kernel), ?_⟩
  | refine ⟨_, _, .type "str", .type _, false, rfl, ClsV.ty _, .base (.str _), kit_ty (by decide +kernel), ?_⟩
  | refine ⟨_, _, .type "NoneType", .type _, true, rfl, ClsV.ty _, .base (.non), kit_ty (by decide +kernel), ?_⟩
  | refine ⟨_, _, .type "NoneType", .type _, false, rfl, ClsV.ty _, .base (.non), kit_ty (by decide +kernel), ?_⟩
  | refine ⟨_, _, .type "list", .type _, true, rfl, ClsV.ty _, .base (.lst (by walk_at "hp")), kit_ty (by decide +kernel), ?_⟩
  | refine ⟨_, _, .type "list", .type _, false, rfl, ClsV.ty _, .base (.lst (by walk_at "hp")), kit_ty (by decide +kernel), ?_⟩
  | refine ⟨_, _, .type "tuple", .type _, true, rfl, ClsV.ty _, .base (.tup (by walk_at "hp")), kit_ty (by decide +kernel), ?_⟩
  | refine ⟨_, _, .type "tuple", .type _, false, rfl, ClsV.ty _, .base (.tup (by walk_at "hp")), kit_ty (by decide +kernel), ?_⟩
  | (refine fun (p : Addr) (hp : _ = none) => ?_)
  | refine iteT ?_
  | refine iteF ?_
  | refine iteD (fun _ => ?_) (fun e => absurd rfl e)
  | refine iteS (fun e => ?_) (fun e => ?_)
  | refine iteI (fun e => ?_) (fun e => ?_)
  | refine iteSn (fun e => ?_) (fun e => ?_)
  | refine iteIn (fun e => ?_) (fun e => ?_)
  | refine iteD (fun e => ?_) (fun e => ?_)
  | refine iteDn (fun e => ?_) (fun e => ?_)
  | refine ite2 (fun e => ?_) (fun e => ?_)))

section
variable {P : Program} {w : World} {K : PySem.W.Frag} {mg : Str → Option Value} {base : Heap}
/-- a net stands at p -/
def NetAt (T : Top w K mg) (H : Hp) (p : Addr) (rs : List Rw) : Prop := ∃ dx o, H p = some (.ins T.C_Net dx (putF "own_nodes" (.ref o) [])) ∧ RowsL H o rs
theorem NetAt.same {T : Top w K mg} {H H' : Hp} (e : Same H H') {p : Addr} {rs : List Rw} : NetAt T H p rs → NetAt T H' p rs := fun ⟨dx, o, h1, h2⟩ => ⟨dx, o, e _ _ h1, h2.same e⟩
/-- a row whose list of operands is new -/
def RowN (H0 H : Hp) (v : V) (r : Rw) : Prop := ∃ t z, v = .ref t ∧ H t = some (.tup [.int r.sz, .ref z, .bl r.src]) ∧ OpsL H z r.ops ∧ H0 z = none
theorem RowN.same {H0 H H' : Hp} (e : Same H H') {v : V} {r : Rw} : RowN H0 H v r → RowN H0 H' v r := fun ⟨t, o, h1, h2, h3, h4⟩ => ⟨t, o, h1, e _ _ h2, e _ _ h3, h4⟩
theorem RowN.row {H0 H : Hp} {v : V} {r : Rw} : RowN H0 H v r → RowL H v r := fun ⟨t, o, h1, h2, h3, _⟩ => ⟨t, o, h1, h2, h3⟩
/-- a net at p, all of its lists new -/
def NetN (T : Top w K mg) (H0 H : Hp) (p : Addr) (rs : List Rw) : Prop := ∃ dx o ys, H p = some (.ins T.C_Net dx (putF "own_nodes" (.ref o) [])) ∧ H0 o = none ∧ H o = some (.lst ys) ∧ Each (RowN H0 H) ys rs
theorem NetN.hid {T : Top w K mg} {H0 H : Hp} {p W : Addr} {rs : List Rw} {o0 : HO} {ys : List V} (h : NetN T H0 H p rs) (h0 : H0 W = some o0) (hw : H W = some (.lst ys)) : NetAt T (wo W H) p rs := by
  obtain ⟨dx, o, xs, h1, h2, h3, h4⟩ := h
  have npW : p ≠ W := ne_of h1 hw (by intro z; cases z)
  have noW : o ≠ W := (ne_of_none h0 h2).symm
  refine ⟨dx, o, (wo_ne npW).trans h1, xs, (wo_ne noW).trans h3, h4.mono fun v r hr => ?_⟩
  obtain ⟨t, z, e1, e2, e3, e4⟩ := hr
  have ntW : t ≠ W := ne_of e2 hw (by intro z; cases z)
  have nzW : z ≠ W := (ne_of_none h0 e4).symm
  exact ⟨t, z, e1, (wo_ne ntW).trans e2, (wo_ne nzW).trans e3⟩
def spInit (T : Top w K mg) : Sp := fun vs H Q _ => ∃ (p a dx : Addr) (rs : List Rw), vs = [.ref p, .ref a] ∧ H p = some (.ins T.C_Net dx []) ∧ RowsT H a rs ∧ WF rs ∧ rs.length ≤ 20 ∧ (∀ H', But p H H' → NetN T H H' p rs → Q .non H')
theorem ok_init (T : Top w K mg) : FnOk P w K mg base CX0 2 T.a_Net___init__ T.d_Net___init__ ["self", "rows"] (spInit T) := by
  have G_bound := ok_bound (P := P) (w := w) (base := base) T
  refine T.F_Net___init__.ok sc_Net___init__ (fun vs H Q E h => ?_) (fun cdv A outer s H vs Q E hr h => ?_)
  · obtain ⟨p, a, dx, rs, rfl, _⟩ := h
    rfl
  · obtain ⟨p, a, dx, rs, rfl, hp, ⟨xs, hX, hE⟩, hW, hn, q⟩ := h
    have hXl := hE.len
    refine ⟨_, (pss_cons (ps_expr (pe_call G_bound (hr.mono (by omega)) (by rfl) T.m_bound T.F_bound.kp T.b_bound .nil pass0 (pa_cons pe_str (pa_cons (pe_callB call_len_seq (by rfl) T.m_len (by decide +kernel) (pa_cons (pv 1) pa_nil)) pa_nil))))
    (pss_cons (ps_fld (pv 0) (pe_lst pa_nil) rfl)
    (pss_one (ps_for PassesOwn.never rfl (pi_range1 rfl T.m_range (pa_cons (pe_callB call_len_seq (by rfl) T.m_len (by decide +kernel) (pa_cons (pv 1) pa_nil)) pa_nil)) (pg_name (i := 2) sc_Net___init__.nd rfl (.inr rfl))
    (pss_cons (ps_asg (pe_ix ix_list (pv 1) (pv 2) (fun _ _ => rfl)) (pg_tup rfl (pgs_cons (pg_name (i := 3) sc_Net___init__.nd rfl (.inl rfl)) (pgs_cons (pg_name (i := 4) sc_Net___init__.nd rfl (.inl rfl)) (pgs_cons (pg_name (i := 5) sc_Net___init__.nd rfl (.inl rfl)) pgs_nil)))))
    (pss_cons (ps_if (PW.pt (pw_or (pt_cmpR op_lt (pv 3) pe_int (nomark _)) (pw_or1 (PW.pt (pw_and (pt_val (pv 5)) (pw_and1 (pt_cmpR op_gt (pe_callB call_len_seq (by rfl) T.m_len (by decide +kernel) (pa_cons (pv 4) pa_nil)) pe_int (nomark _)))))))) pss_never
    pss_nil)
    (pss_cons (ps_if (pt_not (pt_val (pe_callB (cr_all rfl) (by rfl) T.m_all (by decide +kernel) (pa_cons (pe_lc (own := [("operand", 6)]) rfl sc_Net___init__.nd (pi_tup (pv 4)) (blkOk_by (own := [("operand", 6)]) (N := ["self", "rows", "node", "size", "operands", "source", "operand"]) (sc := defScope s_Net___init__) (by decide +kernel)) (fun _ _ _ _ _ => (pg_name (i := 6) sc_Net___init__.nd rfl (.inl rfl))) (fun _ _ _ _ _ => pts_nil) (fun _ _ _ _ _ => (pe_chain op_le op_lt pe_int (pv 6) (pv 2)))) pa_nil)))) pss_never
    pss_nil)
    (pss_one (ps_expr (pe_bm PySem.F.plainAttrs_list PySem.F.slot_list_append PySem.F.type_list_append mt_append (pe_fld (pv 0) rfl) (pa_cons (pe_tup (pa_cons (pv 3) (pa_cons (pe_callTy call_list_of (by rfl) T.m_list (by decide +kernel) (pa_cons (pv 4) pa_nil)) (pa_cons (pv 5) pa_nil)))) pa_nil))))))))))), ?_⟩
    walk_at "s"
    rename_i o ho
    have npo : p ≠ o := ne_of_none hp ho
    have nap : a ≠ p := ne_of hX hp (by intro z; cases z)
    have nao : a ≠ o := ne_of_none hX ho
    refine ⟨p, T.C_Net, dx, _, rfl, by walk_at "hp", T.cl_Net, T.n_Net_own_nodes, by decide, ?_⟩
    walk_at "s"
    refine for_range (lo := 0) (n := ((xs.length : Int)).toNat) (fun i σ H2 => ∃ v2 v3 v4 v5 v6 ys, σ = [some (.ref p), some (.ref a), v2, v3, v4, v5, v6] ∧ But p H H2 ∧ H2 p = some (.ins T.C_Net dx (putF "own_nodes" (.ref o) [])) ∧ H2 o = some (.lst ys) ∧ Each (RowN H (wo o H2)) ys (rs.take i)) ?_ ?_ ?_
    · exact ⟨_, _, _, _, _, [], rfl, (But.of (same_new ho)).trans But.upd, upd_same, by walk_at "hp", .nil⟩
    · intro i σ H2 hi hP
      obtain ⟨v2, v3, v4, v5, v6, ys, rfl, but, h1, h2, h3⟩ := hP
      have hil : i < rs.length := by omega
      have er : rs[i]? = some rs[i] := List.getElem?_eq_getElem hil
      obtain ⟨u, eu, t, z, rfl, ht, hz⟩ := hE.get er
      have hz0 : H z = some (.tup (rs[i].ops.map V.int)) := hz
      have hX2 := but _ _ nap hX
      have ht2 := but _ _ (ne_of ht hp (by intro z; cases z)) ht
      have hz2 := but _ _ (ne_of hz0 hp (by intro z; cases z)) hz0
      have hok := hW i _ er
      have hol : ys.length ≤ 20 := by
        rw [h3.len, List.length_take]
        omega
      simp only [Int.zero_add]
      walk_at "s"
      · rename_i e
        have := hok.1
        exact absurd e (by omega)
      · rename_i e0 e1 e2
        rw [hok.2.2.1 e1] at e2
        exact absurd e2 (by decide)
      all_goals
        rename_i B hB
        have noB : o ≠ B := ne_of_none h2 hB
        have npB : p ≠ B := ne_of_none h1 hB
        have h4 := hok.2.2.2
        refine lc_tup (xs := rs[i].ops.map V.int) (fun j H3 => Same H2 H3 ∧ H3 B = some (.lst ((List.replicate j true).map V.bl))) ?_ ?_ ?_ ?_
        · exact ⟨same_new hB, upd_same⟩
        · intro j H3 hj hP
          exact SqT.of (hP.1 _ _ hz2)
        · intro j x H3 hj hP
          obtain ⟨sm4, b1⟩ := hP
          obtain ⟨v, rfl, hv⟩ := map_get hj
          obtain ⟨v0, v1⟩ := hok.2.1 v (List.mem_of_getElem? hv)
          have hjl := (List.getElem?_eq_some_iff.mp hv).1
          walk_at "s"
          · refine ⟨_, b1, sz_less (by simp only [List.length_map, List.length_replicate]; omega), same_mut sm4 hB, ?_⟩
            show upd _ _ (HO.lst (_ ++ [V.bl (decide (v < (i : Int)))])) _ = _
            rw [upd_same, decide_eq_true v1, List.replicate_succ', List.map_append]
            rfl
          · rename_i e
            exact absurd v0 e
        · intro H3 hP
          obtain ⟨sm4, b1⟩ := hP
          have kall : ∀ n, (List.replicate n true).all id = true := fun n => by
            rw [List.all_eq_true]
            intro x hx
            rw [List.eq_of_mem_replicate hx]
            rfl
          have k1 := sm4 _ _ h1
          have k2 := sm4 _ _ h2
          have k3 := sm4 _ _ hz2
          walk_at "s"
          · rename_i e
            rw [kall] at e
            cases e
          · refine ⟨p, T.C_Net, dx, _, .ref o, rfl, k1, T.cl_Net, T.n_Net_own_nodes, (by rw [lookup_putF, if_pos rfl]), ?_⟩
            walk_at "s"
            rename_i z2 hz2' t2 ht2'
            have s1 : Same H3 (upd H3 z2 (.lst (rs[i].ops.map V.int))) := same_new hz2'
            have s2 := s1.trans (same_new (o := .tup [V.int rs[i].sz, V.ref z2, V.bl rs[i].src]) ht2')
            have noz : z2 ≠ o := (ne_of_none k2 hz2').symm
            have not : t2 ≠ o := (ne_of_none (s1 _ _ k2) ht2').symm
            refine ⟨_, _, _, _, _, _, rfl, but_mut (but.trans' (sm4.trans s2)) ho, by walk_at "hp", upd_same, ?_⟩
            rw [take_snoc er]
            have b2 : But o H2 (upd (upd (upd H3 z2 (.lst (rs[i].ops.map V.int))) t2 (.tup [V.int rs[i].sz, V.ref z2, V.bl rs[i].src])) o (.lst (ys ++ [V.ref t2]))) := (But.of (sm4.trans s2)).trans But.upd
            have nz2 : H z2 = none := (but.trans' sm4).free (ne_of_none k1 hz2').symm hz2'
            refine (h3.mono fun _ _ => RowN.same b2.hid).snoc ⟨t2, z2, rfl, ?_, ?_, nz2⟩
            · rw [wo_ne not, upd_ne not]
              exact upd_same
            · show wo _ _ _ = _
              rw [wo_ne noz, upd_ne noz]
              exact (upd_ne (ne_of_none upd_same ht2')).trans upd_same
    · intro σ H2 hP
      obtain ⟨v2, v3, v4, v5, v6, ys, rfl, but, h1, h2, h3⟩ := hP
      rw [show ((xs.length : Int)).toNat = rs.length from by omega, List.take_length] at h3
      exact q H2 but ⟨dx, o, ys, h1, ho, h2, h3.mono fun _ _ => RowN.same wo_same⟩
end
end K15W
set_option Elab.async false
set_option linter.all false
set_option maxRecDepth 100000
set_option maxHeartbeats 4000000
namespace K15W
open PySem PySem.Spec PyProof.Rows L2 TL LW NT
local macro_rules | `(tactic| walk_at "ne") => `(tactic| first
  | assumption
  | exact Ne.symm (by assumption)
  | exact ne_of_none (by assumption) (by assumption)
  | exact (ne_of_none (by assumption) (by assumption)).symm
  | (apply ne_of_none; (case h' => assumption); (case h => walk_at "hp"))
  | (apply Ne.symm; apply ne_of_none; (case h' => assumption); (case h => walk_at "hp")))
local macro_rules | `(tactic| walk_at "hp") => `(tactic| first
  | assumption
  | exact upd_same
  | exact hp_new (by assumption) (by assumption)
  | (apply hp_new; (case n => assumption); (case h => walk_at "hp"))
  | (refine (upd_ne ?ne).trans ?hp; (case ne => walk_at "ne"); (case hp => walk_at "hp")))
local macro_rules | `(tactic| walk_at "sq") => `(tactic| first
  | ((with_reducible show SqL _ _ _ _); assumption)
  | ((with_reducible show SqT _ _ _ _); assumption)
  | exact SqL.of (by assumption)
  | exact SqL.of upd_same
  | exact SqT.of (by assumption)
  | exact SqT.of upd_same
  | (apply SqL.of; walk_at "hp")
  | (apply SqT.of; walk_at "hp"))
local macro_rules | `(tactic| walk_at "len") => `(tactic| first
  | assumption
  | exact sz_small (by omega)
  | exact sz_less (by omega)
  | decide
  | (refine sz_small ?_; simp only [List.length_append, List.length_cons, List.length_nil, List.length_map, str_len]; omega)
  | (refine sz_less ?_; simp only [List.length_append, List.length_cons, List.length_nil, List.length_map, str_len]; omega))
local macro_rules | `(tactic| walk_at "cond") => `(tactic| first
  | omega
  | (split <;> omega)
  | assumption
  | exact .inl ⟨by omega, by omega⟩
  | exact .inr ⟨by omega, by omega⟩
  | exact ⟨by omega, by omega⟩
  | (show (0 : Int) < _; omega)
  | (show (0 : Int) < _; decide +kernel)
  | exact ⟨by omega, by omega, by decide⟩
  | walk_at "len"
  | rfl
  | (show CMulW _ _; unfold CMulW; decide +kernel)
  | exact ⟨_, rfl⟩
  | decide +kernel
  | exact ⟨_, by walk_at "sq"⟩
  | exact .inl ⟨rfl, _, by walk_at "sq"⟩)
local macro_rules | `(tactic| walk_at "at") => `(tactic| first
  | assumption
  | exact atI_nat (by assumption)
  | exact atI_last _ _
  | exact atI_nat (j := 0) rfl
  | exact atI_nat (j := 1) rfl
  | exact atI_nat (j := 2) rfl
  | exact atI_nat (j := 3) rfl
  | exact atI_nat (j := 4) rfl)
local macro_rules | `(tactic| walk_at "ix") => `(tactic| first
  | assumption
  | (with_reducible exact ixN_0 (by simp; done))
  | (with_reducible exact ixN_1 (by simp; done))
  | (with_reducible exact ixN_2 (by simp; done))
  | (with_reducible exact Evl.ixN_nat (by assumption))
  | (with_reducible exact Evl.ixN_nat (by omega)))
local macro_rules | `(tactic| walk_at "v") => `(tactic| first
  | exact val_var rfl
  | (with_reducible exact val_c)
  | (with_reducible apply val_orV; (case ha => walk_at "v"); (case hb => walk_at "v"))
  | (with_reducible apply val_andV; (case ha => walk_at "v"); (case hb => walk_at "v"))
  | (with_reducible apply val_notV; walk_at "v")
  | (with_reducible apply val_ifS; (case h => walk_at "w"); (case ha => walk_at "v"); (case hb => walk_at "v"))
  | (with_reducible apply val_ifI; (case h => walk_at "w"); (case ha => walk_at "v"); (case hb => walk_at "v"))
  | (with_reducible apply val_ifB; (case h => walk_at "w"); (case ha => walk_at "v"); (case hb => walk_at "v"))
  | (with_reducible apply val_eqS; (case ha => walk_at "v"); (case hb => walk_at "v"))
  | (with_reducible apply val_eqI; (case ha => walk_at "v"); (case hb => walk_at "v"))
  | (with_reducible apply val_neS; (case ha => walk_at "v"); (case hb => walk_at "v"))
  | (with_reducible apply val_neI; (case ha => walk_at "v"); (case hb => walk_at "v"))
  | (with_reducible apply val_op; (case ha => walk_at "v"); (case hb => walk_at "v"); (case hr => exact fun Q q => ⟨_, _, rfl, rfl, q⟩)))
local macro_rules | `(tactic| walk_at "w") => `(tactic| first
  | (with_reducible apply ans_or2; (case h1 => walk_at "w"); (case h2 => walk_at "w"))
  | (with_reducible apply ans_and2; (case h1 => walk_at "w"); (case h2 => walk_at "w"))
  | (with_reducible apply ans_not; walk_at "w")
  | (with_reducible apply ans_test; walk_at "v")
  | (with_reducible apply ans_val; walk_at "v"))
local macro_rules | `(tactic| walk_at "s1") => `(tactic| first
  | (with_reducible refine go_c ?_)
  | (with_reducible apply go_pick; (case hs => walk_at "hp"); (case h0 => walk_at "cond"); (case h1 => walk_at "cond"); (case' q => intro k a b c h0 h1))
  | (with_reducible refine go_nil ?_)
  | (with_reducible refine go_cons ?_)
  | (with_reducible refine go_call ?_)
  | (with_reducible refine go_cb ?_)
  | (with_reducible refine go_next ?_)
  | (with_reducible refine go_cont ?_)
  | (with_reducible refine go_ret ?_)
  | (with_reducible refine go_name ?_)
  | (with_reducible refine go_seq ?_)
  | (with_reducible refine go_asg ?_)
  | (with_reducible apply go_or; (case h => walk_at "v"))
  | (with_reducible apply go_and; (case h => walk_at "v"))
  | (with_reducible apply go_andL; (case h => walk_at "v"); (case' h1 => intro e); (case' h2 => intro e))
  | (with_reducible apply go_orL; (case h => walk_at "v"); (case' h1 => intro e); (case' h2 => intro e))
  | (with_reducible apply go_ifE; (case h => walk_at "v"))
  | (with_reducible apply go_ifOr; (case h => walk_at "w"); (case' h1 => intro e); (case' h2 => intro e))
  | (with_reducible apply go_ifAnd; (case h => walk_at "w"); (case' h1 => intro e); (case' h2 => intro e))
  | (with_reducible refine go_min ?_)
  | refine ⟨_, rfl, ?_⟩
  | refine ⟨_, _, rfl, rfl, ?_⟩
  | (refine And.intro ?cc ?_; (case cc => walk_at "cond"))
  | refine ⟨_, _, _, _, rfl, rfl, by walk_at "sq", by walk_at "at", ?_⟩
  | refine ⟨_, _, _, _, rfl, rfl, by walk_at "hp", by walk_at "ix", ?_⟩
  | refine ⟨_, _, _, _, rfl, rfl, by walk_at "hp", by walk_at "hp", by walk_at "len", ?_⟩
  | refine ⟨_, _, _, rfl, rfl, by walk_at "len", by walk_at "at", ?_⟩
  | refine ⟨_, _, _, rfl, rfl, by walk_at "hp", by walk_at "len", ?_⟩
  | refine ⟨_, _, _, rfl, rfl, by walk_at "hp", by walk_at "at", ?_⟩
  | refine ⟨_, _, rfl, rfl, by walk_at "sq", ?_⟩
  | refine ⟨_, _, rfl, rfl, by walk_at "len", ?_⟩
  | refine ⟨_, _, rfl, by walk_at "sq", ?_⟩
  | refine ⟨_, _, rfl, .inl (by walk_at "sq"), ?_⟩
  | refine ⟨_, _, rfl, .inr (by walk_at "sq"), ?_⟩
  | refine ⟨_, _, rfl, by walk_at "sq", rfl, ?_⟩
  | refine ⟨_, fun _ _ h => h, ?_⟩
  | refine ⟨_, _, rfl, ?_⟩
  | refine .inl ⟨_, rfl, ?_⟩
  | refine ⟨_, _, .type "int", .type _, true, rfl, ClsV.ty _, .base (.int _), kit_ty (by decide +kernel), ?_⟩
  | refine ⟨_, _, .type "int", .type _, false, rfl, ClsV.ty _, .base (.int _), kit_ty (by decide +kernel), ?_⟩
  | refine ⟨_, _, .type "bool", .type _, true, rfl, ClsV.ty _, .base (.bl _), kit_ty (by decide +kernel), ?_⟩
  | refine ⟨_, _, .type "bool", .type _, false, rfl, ClsV.ty _, .base (.bl _), kit_ty (by decide +kernel), ?_⟩
  | refine ⟨_, _, .type "str", .type _, true, rfl, ClsV.ty _, .base (.str _), kit_ty (by decide +kernel), ?_⟩
  | refine ⟨_, _, .type "str", .type _, false, rfl, ClsV.ty _, .base (.str _), kit_ty (by decide +kernel), ?_⟩
  | refine ⟨_, _, .type "NoneType", .type _, true, rfl, ClsV.ty _, .base (.non), kit_ty (by decide +kernel), ?_⟩
  | refine ⟨_, _, .type "NoneType", .type _, false, rfl, ClsV.ty _, .base (.non), kit_ty (by decide +kernel), ?_⟩
  | refine ⟨_, _, .type "list", .type _, true, rfl, ClsV.ty _, .base (.lst (by walk_at "hp")), kit_ty (by decide +kernel), ?_⟩
  | refine ⟨_, _, .type "list", .type _, false, rfl, ClsV.ty _, .base (.lst (by walk_at "hp")), kit_ty (by decide +kernel), ?_⟩
  | refine ⟨_, _, .type "tuple", .type _, true, rfl, ClsV.ty _, .base (.tup (by walk_at "hp")), kit_ty (by decide +kernel), ?_⟩
  | refine ⟨_, _, .type "tuple", .type _, false, rfl, ClsV.ty _, .base (.tup (by walk_at "hp")), kit_ty (by decide +kernel), ?_⟩
  | (refine fun (p : Addr) (hp : _ = none) => ?_)
  | refine iteT ?_
  | refine iteF ?_
  | refine iteD (fun _ => ?_) (fun e => absurd rfl e)
  | refine iteS (fun e => ?_) (fun e => ?_)
  | refine iteI (fun e => ?_) (fun e => ?_)
  | refine iteSn (fun e => ?_) (fun e => ?_)
  | refine iteIn (fun e => ?_) (fun e => ?_)
  | refine iteD (fun e => ?_) (fun e => ?_)
  | refine iteDn (fun e => ?_) (fun e => ?_)
  | refine ite2 (fun e => ?_) (fun e => ?_))
local macro_rules | `(tactic| walk_at "s") => `(tactic| repeat' (first
  | (with_reducible refine go_c ?_)
  | (with_reducible apply go_pick; (case hs => walk_at "hp"); (case h0 => walk_at "cond"); (case h1 => walk_at "cond"); (case' q => intro k a b c h0 h1))
  | (with_reducible refine go_nil ?_)
  | (with_reducible refine go_cons ?_)
  | (with_reducible refine go_call ?_)
  | (with_reducible refine go_cb ?_)
  | (with_reducible refine go_next ?_)
  | (with_reducible refine go_cont ?_)
  | (with_reducible refine go_ret ?_)
  | (with_reducible refine go_name ?_)
  | (with_reducible refine go_seq ?_)
  | (with_reducible refine go_asg ?_)
  | (with_reducible apply go_or; (case h => walk_at "v"))
  | (with_reducible apply go_and; (case h => walk_at "v"))
  | (with_reducible apply go_andL; (case h => walk_at "v"); (case' h1 => intro e); (case' h2 => intro e))
  | (with_reducible apply go_orL; (case h => walk_at "v"); (case' h1 => intro e); (case' h2 => intro e))
  | (with_reducible apply go_ifE; (case h => walk_at "v"))
  | (with_reducible apply go_ifOr; (case h => walk_at "w"); (case' h1 => intro e); (case' h2 => intro e))
  | (with_reducible apply go_ifAnd; (case h => walk_at "w"); (case' h1 => intro e); (case' h2 => intro e))
  | (with_reducible refine go_min ?_)
  | refine ⟨_, rfl, ?_⟩
  | refine ⟨_, _, rfl, rfl, ?_⟩
  | (refine And.intro ?cc ?_; (case cc => walk_at "cond"))
  | refine ⟨_, _, _, _, rfl, rfl, by walk_at "sq", by walk_at "at", ?_⟩
  | refine ⟨_, _, _, _, rfl, rfl, by walk_at "hp", by walk_at "ix", ?_⟩
  | refine ⟨_, _, _, _, rfl, rfl, by walk_at "hp", by walk_at "hp", by walk_at "len", ?_⟩
  | refine ⟨_, _, _, rfl, rfl, by walk_at "len", by walk_at "at", ?_⟩
  | refine ⟨_, _, _, rfl, rfl, by walk_at "hp", by walk_at "len", ?_⟩
  | refine ⟨_, _, _, rfl, rfl, by walk_at "hp", by walk_at "at", ?_⟩
  | refine ⟨_, _, rfl, rfl, by walk_at "sq", ?_⟩
  | refine ⟨_, _, rfl, rfl, by walk_at "len", ?_⟩
  | refine ⟨_, _, rfl, by walk_at "sq", ?_⟩
  | refine ⟨_, _, rfl, .inl (by walk_at "sq"), ?_⟩
  | refine ⟨_, _, rfl, .inr (by walk_at "sq"), ?_⟩
  | refine ⟨_, _, rfl, by walk_at "sq", rfl, ?_⟩
  | refine ⟨_, fun _ _ h => h, ?_⟩
  | refine ⟨_, _, rfl, ?_⟩
  | refine .inl ⟨_, rfl, ?_⟩
  | refine ⟨_, _, .type "int", .type _, true, rfl, ClsV.ty _, .base (.int _), kit_ty (by decide +kernel), ?_⟩
  | refine ⟨_, _, .type "int", .type _, false, rfl, ClsV.ty _, .base (.int _), kit_ty (by decide +kernel), ?_⟩
  | refine ⟨_, _, .type "bool", .type _, true, rfl, ClsV.ty _, .base (.bl _), kit_ty (by decide +kernel), ?_⟩
  | refine ⟨_, _, .type "bool", .type _, false, rfl, ClsV.ty _, .base (.bl _), kit_ty (by decide +kernel), ?_⟩
  | refine ⟨_, _, .type "str", .type _, true, rfl, ClsV.ty _, .base (.str _), kit_ty (by decide +kernel), ?_⟩
  | refine ⟨_, _, .type "str", .type _, false, rfl, ClsV.ty _, .base (.str _), kit_ty (by decide +kernel), ?_⟩
  | refine ⟨_, _, .type "NoneType", .type _, true, rfl, ClsV.ty _, .base (.non), kit_ty (by decide +kernel), ?_⟩
  | refine ⟨_, _, .type "NoneType", .type _, false, rfl, ClsV.ty _, .base (.non), kit_ty (by decide +kernel), ?_⟩
  | refine ⟨_, _, .type "list", .type _, true, rfl, ClsV.ty _, .base (.lst (by walk_at "hp")), kit_ty (by decide +kernel), ?_⟩
  | refine ⟨_, _, .type "list", .type _, false, rfl, ClsV.ty _, .base (.lst (by walk_at "hp")), kit_ty (by decide +kernel), ?_⟩
  | refine ⟨_, _, .type "tuple", .type _, true, rfl, ClsV.ty _, .base (.tup (by walk_at "hp")), kit_ty (by decide +kernel), ?_⟩
  | refine ⟨_, _, .type "tuple", .type _, false, rfl, ClsV.ty _, .base (.tup (by walk_at "hp")), kit_ty (by decide +kernel), ?_⟩
  | (refine fun (p : Addr) (hp : _ = none) => ?_)
  | refine iteT ?_
  | refine iteF ?_
  | refine iteD (fun _ => ?_) (fun e => absurd rfl e)
  | refine iteS (fun e => ?_) (fun e => ?_)
  | refine iteI (fun e => ?_) (fun e => ?_)
  | refine iteSn (fun e => ?_) (fun e => ?_)
  | refine iteIn (fun e => ?_) (fun e => ?_)
  | refine iteD (fun e => ?_) (fun e => ?_)
  | refine iteDn (fun e => ?_) (fun e => ?_)
  | refine ite2 (fun e => ?_) (fun e => ?_)))

section
variable {P : Program} {w : World} {K : PySem.W.Frag} {mg : Str → Option Value} {base : Heap}
/-! ### the law's own flags -/
def spCMade (K : PySem.W.Frag) : Sp := fun vs H Q _ => ∃ (a k : Addr) (rs : List Rw) (ks : List Int), vs = [.ref a, .ref k] ∧ RowsT H a rs ∧ WF rs ∧ rs.length ≤ 20 ∧ Ints H k ks ∧
  ∀ (l : Addr) (H' : Hp), Same H H' → H l = none → H' l = some (.lst ((flags rs ks).map V.bl)) → Q (.ref l) H'
theorem ok_cmade (T : Top w K mg) : FnOk P w K mg base CX0 1 T.a_law_c_made T.d_law_c_made ["rows", "kept"] (spCMade K) := by
  refine T.F_law_c_made.ok sc_law_c_made (fun vs H Q E h => ?_) (fun cdv A outer s H vs Q E hr h => ?_)
  · obtain ⟨a, k, rs, ks, rfl, _⟩ := h
    rfl
  · obtain ⟨a, k, rs, ks, rfl, ⟨xs, hX, hE⟩, hW, hn, hk, q⟩ := h
    have hXl := hE.len
    refine ⟨_, (pss_cons (ps_set (i := 2) sc_law_c_made.nd rfl (.inr rfl) (pe_lst pa_nil))
    (pss_cons (ps_for PassesOwn.never rfl (pi_range1 rfl T.m_range (pa_cons (pe_callB call_len_seq (by rfl) T.m_len (by decide +kernel) (pa_cons (pv 0) pa_nil)) pa_nil)) (pg_name (i := 3) sc_law_c_made.nd rfl (.inl rfl))
    (pss_one (ps_expr (pe_bm PySem.F.plainAttrs_list PySem.F.slot_list_append PySem.F.type_list_append mt_append (pv 2) (pa_cons (pe_or (pe_cmpR op_in_seq (pv 3) (pv 1) (by rfl)) (pe_one (pe_and (pe_not (pe_ix ix_tup (pe_ix ix_list (pv 0) (pv 3) (fun _ _ => rfl)) pe_int (fun _ _ => rfl))) (pe_one (pe_callB (cr_all rfl) (by rfl) T.m_all (by decide +kernel) (pa_cons (pe_lc (own := [("operand", 4)]) rfl sc_law_c_made.nd (pi_tup (pe_ix ix_tup (pe_ix ix_list (pv 0) (pv 3) (fun _ _ => rfl)) pe_int (fun _ _ => rfl))) (blkOk_by (own := [("operand", 4)]) (N := ["rows", "kept", "flags", "node", "operand"]) (sc := defScope s_law_c_made) (by decide +kernel)) (fun _ _ _ _ _ => (pg_name (i := 4) sc_law_c_made.nd rfl (.inl rfl))) (fun _ _ _ _ _ => pts_nil) (fun _ _ _ _ _ => (pe_ix (ix_listB (K := K) rfl) (pv 2) (pv 4) (fun _ _ => rfl)))) pa_nil)))))) pa_nil)))))
    (pss_one (ps_ret (pv 2))))), ?_⟩
    walk_at "s"
    rename_i L hL
    refine for_range (lo := 0) (n := ((xs.length : Int)).toNat) (fun i σ H2 => ∃ v2 v4, σ = [some (.ref a), some (.ref k), some (.ref L), v2, v4] ∧ Same H H2 ∧ H2 L = some (.lst ((fl rs ks i).map V.bl))) ?_ ?_ ?_
    · exact ⟨_, _, rfl, same_new hL, upd_same⟩
    · intro i σ H2 hi hP
      obtain ⟨v2, v4, rfl, sm3, d2⟩ := hP
      have hi' : i < rs.length := by omega
      have er : rs[i]? = some rs[i] := List.getElem?_eq_getElem hi'
      obtain ⟨u, eu, t, o, rfl, ht, ho⟩ := hE.get er
      have hX2 := sm3 _ _ hX
      have hk2 := sm3 _ _ hk
      have ht2 := sm3 _ _ ht
      have ho2 : OpsT H2 o rs[i].ops := sm3 _ _ ho
      have hlen : (fl rs ks i).length = i := fl_len i (by omega)
      simp only [Int.zero_add]
      walk_at "s"
      refine ⟨flat_ints, ?_⟩
      rw [show (if false = true then !inV (V.int (i : Int)) (ks.map V.int) else inV (V.int (i : Int)) (ks.map V.int)) = inV (V.int (i : Int)) (ks.map V.int) from rfl, inV_int]
      refine ⟨_, rfl, ?_⟩
      by_cases e : (i : Int) ∈ ks
      · rw [decide_eq_true e]
        refine iteT ?_
        walk_at "s"
        refine ⟨same_mut sm3 hL, ?_⟩
        rw [upd_same, fl_succ er, List.map_append]
        unfold mk1
        rw [decide_eq_true e]
        rfl
      · rw [decide_eq_false e]
        refine iteF ?_
        walk_at "s"
        · rename_i es B hB
          have nLB : L ≠ B := ne_of_none d2 hB
          have nB : H B = none := sm3.free hB
          have h4 := (hW i _ er).2.2.2
          refine lc_tup (xs := rs[i].ops.map V.int) (fun j H3 => Same H2 H3 ∧ H3 B = some (.lst (((rs[i].ops.take j).map (flag (fl rs ks i))).map V.bl))) ?_ ?_ ?_ ?_
          · exact ⟨same_new hB, upd_same⟩
          · intro j H3 hj hP
            exact SqT.of (hP.1 _ _ ho2)
          · intro j x H3 hj hP
            obtain ⟨sm4, b1⟩ := hP
            obtain ⟨v, rfl, hv⟩ := map_get hj
            obtain ⟨v0, v1⟩ := (hW i _ er).2.1 v (List.mem_of_getElem? hv)
            have hjl := (List.getElem?_eq_some_iff.mp hv).1
            have b2 := sm4 _ _ d2
            walk_at "s"
            refine ⟨_, _, _, _, rfl, rfl, SqL.of b2, at_flag v0 (by rw [hlen]; exact v1), ?_⟩
            refine ⟨_, b1, sz_less (by simp only [List.length_map, List.length_take]; omega), same_mut sm4 hB, ?_⟩
            rw [upd_same, take_snoc hv, List.map_append, List.map_append]
            rfl
          · intro H3 hP
            obtain ⟨sm4, b1⟩ := hP
            rw [List.length_map, List.take_length] at b1
            have b2 := sm4 _ _ d2
            walk_at "s"
            refine ⟨same_mut (sm3.trans sm4) hL, ?_⟩
            rw [upd_same, fl_succ er, List.map_append, all_map]
            unfold mk1
            rw [decide_eq_false e, es]
            rfl
        · rename_i es
          have es : rs[i].src = true := by simpa using es
          refine ⟨same_mut sm3 hL, ?_⟩
          rw [upd_same, fl_succ er, List.map_append]
          unfold mk1
          rw [decide_eq_false e, es]
          rfl
    · intro σ H2 hP
      obtain ⟨v2, v4, rfl, sm3, d2⟩ := hP
      walk_at "s"
      rw [show ((xs.length : Int)).toNat = rs.length from by omega] at d2
      exact q L H2 sm3 hL d2
end
end K15W
set_option Elab.async false
set_option linter.all false
set_option maxRecDepth 100000
set_option maxHeartbeats 4000000
namespace K15W
open PySem PySem.Spec PyProof.Rows L2 TL LW NT
local macro_rules | `(tactic| walk_at "ne") => `(tactic| first
  | assumption
  | exact Ne.symm (by assumption)
  | exact ne_of_none (by assumption) (by assumption)
  | exact (ne_of_none (by assumption) (by assumption)).symm
  | (apply ne_of_none; (case h' => assumption); (case h => walk_at "hp"))
  | (apply Ne.symm; apply ne_of_none; (case h' => assumption); (case h => walk_at "hp")))
local macro_rules | `(tactic| walk_at "hp") => `(tactic| first
  | assumption
  | exact upd_same
  | exact hp_new (by assumption) (by assumption)
  | (apply hp_new; (case n => assumption); (case h => walk_at "hp"))
  | (refine (upd_ne ?ne).trans ?hp; (case ne => walk_at "ne"); (case hp => walk_at "hp")))
local macro_rules | `(tactic| walk_at "sq") => `(tactic| first
  | ((with_reducible show SqL _ _ _ _); assumption)
  | ((with_reducible show SqT _ _ _ _); assumption)
  | exact SqL.of (by assumption)
  | exact SqL.of upd_same
  | exact SqT.of (by assumption)
  | exact SqT.of upd_same
  | (apply SqL.of; walk_at "hp")
  | (apply SqT.of; walk_at "hp"))
local macro_rules | `(tactic| walk_at "len") => `(tactic| first
  | assumption
  | exact sz_small (by omega)
  | exact sz_less (by omega)
  | decide
  | (refine sz_small ?_; simp only [List.length_append, List.length_cons, List.length_nil, List.length_map, str_len]; omega)
  | (refine sz_less ?_; simp only [List.length_append, List.length_cons, List.length_nil, List.length_map, str_len]; omega))
local macro_rules | `(tactic| walk_at "cond") => `(tactic| first
  | omega
  | (split <;> omega)
  | assumption
  | exact .inl ⟨by omega, by omega⟩
  | exact .inr ⟨by omega, by omega⟩
  | exact ⟨by omega, by omega⟩
  | (show (0 : Int) < _; omega)
  | (show (0 : Int) < _; decide +kernel)
  | exact ⟨by omega, by omega, by decide⟩
  | walk_at "len"
  | rfl
  | (show CMulW _ _; unfold CMulW; decide +kernel)
  | exact ⟨_, rfl⟩
  | decide +kernel
  | exact ⟨_, by walk_at "sq"⟩
  | exact .inl ⟨rfl, _, by walk_at "sq"⟩)
local macro_rules | `(tactic| walk_at "at") => `(tactic| first
  | assumption
  | exact atI_nat (by assumption)
  | exact atI_last _ _
  | exact atI_nat (j := 0) rfl
  | exact atI_nat (j := 1) rfl
  | exact atI_nat (j := 2) rfl
  | exact atI_nat (j := 3) rfl
  | exact atI_nat (j := 4) rfl)
local macro_rules | `(tactic| walk_at "ix") => `(tactic| first
  | assumption
  | (with_reducible exact ixN_0 (by simp; done))
  | (with_reducible exact ixN_1 (by simp; done))
  | (with_reducible exact ixN_2 (by simp; done))
  | (with_reducible exact Evl.ixN_nat (by assumption))
  | (with_reducible exact Evl.ixN_nat (by omega)))
local macro_rules | `(tactic| walk_at "v") => `(tactic| first
  | exact val_var rfl
  | (with_reducible exact val_c)
  | (with_reducible apply val_orV; (case ha => walk_at "v"); (case hb => walk_at "v"))
  | (with_reducible apply val_andV; (case ha => walk_at "v"); (case hb => walk_at "v"))
  | (with_reducible apply val_notV; walk_at "v")
  | (with_reducible apply val_ifS; (case h => walk_at "w"); (case ha => walk_at "v"); (case hb => walk_at "v"))
  | (with_reducible apply val_ifI; (case h => walk_at "w"); (case ha => walk_at "v"); (case hb => walk_at "v"))
  | (with_reducible apply val_ifB; (case h => walk_at "w"); (case ha => walk_at "v"); (case hb => walk_at "v"))
  | (with_reducible apply val_eqS; (case ha => walk_at "v"); (case hb => walk_at "v"))
  | (with_reducible apply val_eqI; (case ha => walk_at "v"); (case hb => walk_at "v"))
  | (with_reducible apply val_neS; (case ha => walk_at "v"); (case hb => walk_at "v"))
  | (with_reducible apply val_neI; (case ha => walk_at "v"); (case hb => walk_at "v"))
  | (with_reducible apply val_op; (case ha => walk_at "v"); (case hb => walk_at "v"); (case hr => exact fun Q q => ⟨_, _, rfl, rfl, q⟩)))
local macro_rules | `(tactic| walk_at "w") => `(tactic| first
  | (with_reducible apply ans_or2; (case h1 => walk_at "w"); (case h2 => walk_at "w"))
  | (with_reducible apply ans_and2; (case h1 => walk_at "w"); (case h2 => walk_at "w"))
  | (with_reducible apply ans_not; walk_at "w")
  | (with_reducible apply ans_test; walk_at "v")
  | (with_reducible apply ans_val; walk_at "v"))
local macro_rules | `(tactic| walk_at "s1") => `(tactic| first
  | (with_reducible refine go_c ?_)
  | (with_reducible apply go_pick; (case hs => walk_at "hp"); (case h0 => walk_at "cond"); (case h1 => walk_at "cond"); (case' q => intro k a b c h0 h1))
  | (with_reducible refine go_nil ?_)
  | (with_reducible refine go_cons ?_)
  | (with_reducible refine go_call ?_)
  | (with_reducible refine go_cb ?_)
  | (with_reducible refine go_next ?_)
  | (with_reducible refine go_cont ?_)
  | (with_reducible refine go_ret ?_)
  | (with_reducible refine go_name ?_)
  | (with_reducible refine go_seq ?_)
  | (with_reducible refine go_asg ?_)
  | (with_reducible apply go_or; (case h => walk_at "v"))
  | (with_reducible apply go_and; (case h => walk_at "v"))
  | (with_reducible apply go_andL; (case h => walk_at "v"); (case' h1 => intro e); (case' h2 => intro e))
  | (with_reducible apply go_orL; (case h => walk_at "v"); (case' h1 => intro e); (case' h2 => intro e))
  | (with_reducible apply go_ifE; (case h => walk_at "v"))
  | (with_reducible apply go_ifOr; (case h => walk_at "w"); (case' h1 => intro e); (case' h2 => intro e))
  | (with_reducible apply go_ifAnd; (case h => walk_at "w"); (case' h1 => intro e); (case' h2 => intro e))
  | (with_reducible refine go_min ?_)
  | refine ⟨_, rfl, ?_⟩
  | refine ⟨_, _, rfl, rfl, ?_⟩
  | (refine And.intro ?cc ?_; (case cc => walk_at "cond"))
  | refine ⟨_, _, _, _, rfl, rfl, by walk_at "sq", by walk_at "at", ?_⟩
  | refine ⟨_, _, _, _, rfl, rfl, by walk_at "hp", by walk_at "ix", ?_⟩
  | refine ⟨_, _, _, _, rfl, rfl, by walk_at "hp", by walk_at "hp", by walk_at "len", ?_⟩
  | refine ⟨_, _, _, rfl, rfl, by walk_at "len", by walk_at "at", ?_⟩
  | refine ⟨_, _, _, rfl, rfl, by walk_at "hp", by walk_at "len", ?_⟩
  | refine ⟨_, _, _, rfl, rfl, by walk_at "hp", by walk_at "at", ?_⟩
  | refine ⟨_, _, rfl, rfl, by walk_at "sq", ?_⟩
  | refine ⟨_, _, rfl, rfl, by walk_at "len", ?_⟩
  | refine ⟨_, _, rfl, by walk_at "sq", ?_⟩
  | refine ⟨_, _, rfl, .inl (by walk_at "sq"), ?_⟩
  | refine ⟨_, _, rfl, .inr (by walk_at "sq"), ?_⟩
  | refine ⟨_, _, rfl, by walk_at "sq", rfl, ?_⟩
  | refine ⟨_, fun _ _ h => h, ?_⟩
  | refine ⟨_, _, rfl, ?_⟩
  | refine .inl ⟨_, rfl, ?_⟩
  | refine ⟨_, _, .type "int", .type _, true, rfl, ClsV.ty _, .base (.int _), kit_ty (by decide +kernel), ?_⟩
  | refine ⟨_, _, .type "int", .type _, false, rfl, ClsV.ty _, .base (.int _), kit_ty (by decide +kernel), ?_⟩
  | refine ⟨_, _, .type "bool", .type _, true, rfl, ClsV.ty _, .base (.bl _), kit_ty (by decide +kernel), ?_⟩
  | refine ⟨_, _, .type "bool", .type _, false, rfl, ClsV.ty _, .base (.bl _), kit_ty (by decide +kernel), ?_⟩
  | refine ⟨_, _, .type "str", .type _, true, rfl, ClsV.ty _, .base (.str _), kit_ty (by decide +kernel), ?_⟩
  | refine ⟨_, _, .type "str", .type _, false, rfl, ClsV.ty _, .base (.str _), kit_ty (by decide +kernel), ?_⟩
  | refine ⟨_, _, .type "NoneType", .type _, true, rfl, ClsV.ty _, .base (.non), kit_ty (by decide +kernel), ?_⟩
  | refine ⟨_, _, .type "NoneType", .type _, false, rfl, ClsV.ty _, .base (.non), kit_ty (by decide +kernel), ?_⟩
  | refine ⟨_, _, .type "list", .type _, true, rfl, ClsV.ty _, .base (.lst (by walk_at "hp")), kit_ty (by decide +kernel), ?_⟩
  | refine ⟨_, _, .type "list", .type _, false, rfl, ClsV.ty _, .base (.lst (by walk_at "hp")), kit_ty (by decide +kernel), ?_⟩
  | refine ⟨_, _, .type "tuple", .type _, true, rfl, ClsV.ty _, .base (.tup (by walk_at "hp")), kit_ty (by decide +kernel), ?_⟩
  | refine ⟨_, _, .type "tuple", .type _, false, rfl, ClsV.ty _, .base (.tup (by walk_at "hp")), kit_ty (by decide +kernel), ?_⟩
  | (refine fun (p : Addr) (hp : _ = none) => ?_)
  | refine iteT ?_
  | refine iteF ?_
  | refine iteD (fun _ => ?_) (fun e => absurd rfl e)
  | refine iteS (fun e => ?_) (fun e => ?_)
  | refine iteI (fun e => ?_) (fun e => ?_)
  | refine iteSn (fun e => ?_) (fun e => ?_)
  | refine iteIn (fun e => ?_) (fun e => ?_)
  | refine iteD (fun e => ?_) (fun e => ?_)
  | refine iteDn (fun e => ?_) (fun e => ?_)
  | refine ite2 (fun e => ?_) (fun e => ?_))
local macro_rules | `(tactic| walk_at "s") => `(tactic| repeat' (first
  | (with_reducible refine go_c ?_)
  | (with_reducible apply go_pick; (case hs => walk_at "hp"); (case h0 => walk_at "cond"); (case h1 => walk_at "cond"); (case' q => intro k a b c h0 h1))
  | (with_reducible refine go_nil ?_)
  | (with_reducible refine go_cons ?_)
  | (with_reducible refine go_call ?_)
  | (with_reducible refine go_cb ?_)
  | (with_reducible refine go_next ?_)
  | (with_reducible refine go_cont ?_)
  | (with_reducible refine go_ret ?_)
  | (with_reducible refine go_name ?_)
  | (with_reducible refine go_seq ?_)
  | (with_reducible refine go_asg ?_)
  | (with_reducible apply go_or; (case h => walk_at "v"))
  | (with_reducible apply go_and; (case h => walk_at "v"))
  | (with_reducible apply go_andL; (case h => walk_at "v"); (case' h1 => intro e); (case' h2 => intro e))
  | (with_reducible apply go_orL; (case h => walk_at "v"); (case' h1 => intro e); (case' h2 => intro e))
  | (with_reducible apply go_ifE; (case h => walk_at "v"))
  | (with_reducible apply go_ifOr; (case h => walk_at "w"); (case' h1 => intro e); (case' h2 => intro e))
  | (with_reducible apply go_ifAnd; (case h => walk_at "w"); (case' h1 => intro e); (case' h2 => intro e))
  | (with_reducible refine go_min ?_)
  | refine ⟨_, rfl, ?_⟩
  | refine ⟨_, _, rfl, rfl, ?_⟩
  | (refine And.intro ?cc ?_; (case cc => walk_at "cond"))
  | refine ⟨_, _, _, _, rfl, rfl, by walk_at "sq", by walk_at "at", ?_⟩
  | refine ⟨_, _, _, _, rfl, rfl, by walk_at "hp", by walk_at "ix", ?_⟩
  | refine ⟨_, _, _, _, rfl, rfl, by walk_at "hp", by walk_at "hp", by walk_at "len", ?_⟩
  | refine ⟨_, _, _, rfl, rfl, by walk_at "len", by walk_at "at", ?_⟩
  | refine ⟨_, _, _, rfl, rfl, by walk_at "hp", by walk_at "len", ?_⟩
  | refine ⟨_, _, _, rfl, rfl, by walk_at "hp", by walk_at "at", ?_⟩
  | refine ⟨_, _, rfl, rfl, by walk_at "sq", ?_⟩
  | refine ⟨_, _, rfl, rfl, by walk_at "len", ?_⟩
  | refine ⟨_, _, rfl, by walk_at "sq", ?_⟩
  | refine ⟨_, _, rfl, .inl (by walk_at "sq"), ?_⟩
  | refine ⟨_, _, rfl, .inr (by walk_at "sq"), ?_⟩
  | refine ⟨_, _, rfl, by walk_at "sq", rfl, ?_⟩
  | refine ⟨_, fun _ _ h => h, ?_⟩
  | refine ⟨_, _, rfl, ?_⟩
  | refine .inl ⟨_, rfl, ?_⟩
  | refine ⟨_, _, .type "int", .type _, true, rfl, ClsV.ty _, .base (.int _), kit_ty (by decide +kernel), ?_⟩
  | refine ⟨_, _, .type "int", .type _, false, rfl, ClsV.ty _, .base (.int _), kit_ty (by decide +kernel), ?_⟩
  | refine ⟨_, _, .type "bool", .type _, true, rfl, ClsV.ty _, .base (.bl _), kit_ty (by decide +kernel), ?_⟩
  | refine ⟨_, _, .type "bool", .type _, false, rfl, ClsV.ty _, .base (.bl _), kit_ty (by decide +kernel), ?_⟩
  | refine ⟨_, _, .type "str", .type _, true, rfl, ClsV.ty _, .base (.str _), kit_ty (by decide +kernel), ?_⟩
  | refine ⟨_, _, .type "str", .type _, false, rfl, ClsV.ty _, .base (.str _), kit_ty (by decide +kernel), ?_⟩
  | refine ⟨_, _, .type "NoneType", .type _, true, rfl, ClsV.ty _, .base (.non), kit_ty (by decide +kernel), ?_⟩
  | refine ⟨_, _, .type "NoneType", .type _, false, rfl, ClsV.ty _, .base (.non), kit_ty (by decide +kernel), ?_⟩
  | refine ⟨_, _, .type "list", .type _, true, rfl, ClsV.ty _, .base (.lst (by walk_at "hp")), kit_ty (by decide +kernel), ?_⟩
  | refine ⟨_, _, .type "list", .type _, false, rfl, ClsV.ty _, .base (.lst (by walk_at "hp")), kit_ty (by decide +kernel), ?_⟩
  | refine ⟨_, _, .type "tuple", .type _, true, rfl, ClsV.ty _, .base (.tup (by walk_at "hp")), kit_ty (by decide +kernel), ?_⟩
  | refine ⟨_, _, .type "tuple", .type _, false, rfl, ClsV.ty _, .base (.tup (by walk_at "hp")), kit_ty (by decide +kernel), ?_⟩
  | (refine fun (p : Addr) (hp : _ = none) => ?_)
  | refine iteT ?_
  | refine iteF ?_
  | refine iteD (fun _ => ?_) (fun e => absurd rfl e)
  | refine iteS (fun e => ?_) (fun e => ?_)
  | refine iteI (fun e => ?_) (fun e => ?_)
  | refine iteSn (fun e => ?_) (fun e => ?_)
  | refine iteIn (fun e => ?_) (fun e => ?_)
  | refine iteD (fun e => ?_) (fun e => ?_)
  | refine iteDn (fun e => ?_) (fun e => ?_)
  | refine ite2 (fun e => ?_) (fun e => ?_)))

section
variable {P : Program} {w : World} {K : PySem.W.Frag} {mg : Str → Option Value} {base : Heap}
/-- a source of digits -/
def Src (H : Hp) (s : Addr) : Prop := ∃ a b c : Int, H s = some (.lst [.int a, .int b, .int c])
/-! ### a drawn net -/
def spNet : Sp := fun vs H Q _ => ∃ (s : Addr) (many : Int), vs = [.ref s, .int many] ∧ Src H s ∧ 0 < many ∧ many ≤ 20 ∧
  ∀ (r : Addr) (H' : Hp) (rs : List Rw), But s H H' → H r = none → Src H' s → RowsT H' r rs → WF rs → (rs.length : Int) = many → Q (.ref r) H'
theorem ok_net (T : Top w K mg) : FnOk P w K mg base CX0 2 T.a_law_c_net T.d_law_c_net ["source", "many"] spNet := by
  have G_law_pick := ok_pick (P := P) (w := w) (base := base) T
  refine T.F_law_c_net.ok sc_law_c_net (fun vs H Q E h => ?_) (fun cdv A outer s H vs Q E hr h => ?_)
  · obtain ⟨s, many, rfl, _⟩ := h
    rfl
  · obtain ⟨s, many, rfl, hs, m0, m1, q⟩ := h
    obtain ⟨a0, b0, c0, hs⟩ := hs
    refine ⟨_, (pss_cons (ps_set (i := 2) sc_law_c_net.nd rfl (.inl rfl) (pe_lst pa_nil))
    (pss_cons (ps_for PassesOwn.never rfl (pi_range1 rfl T.m_range (pa_cons (pv 1) pa_nil)) (pg_name (i := 3) sc_law_c_net.nd rfl (.inl rfl))
    (Evl.pss_cut (ps_set (i := 4) sc_law_c_net.nd rfl (.inl rfl) (pe_op op_add pe_int (pe_ix ix_list (pe_lst (pa_cons pe_int (pa_cons pe_int (pa_cons pe_int (pa_cons pe_int (pa_cons pe_int pa_nil)))))) (pe_call G_law_pick (hr.mono (by omega)) (by rfl) T.m_law_pick T.F_law_pick.kp T.b_law_pick .nil pass0 (pa_cons (pv 0) (pa_cons pe_int pa_nil))) (fun _ _ => rfl))))
    (Evl.pss_cut (ps_set (i := 5) sc_law_c_net.nd rfl (.inl rfl) (pe_ifExp (pt_cmpR op_lt (pv 3) pe_int (nomark _)) pe_int (pe_call G_law_pick (hr.mono (by omega)) (by rfl) T.m_law_pick T.F_law_pick.kp T.b_law_pick .nil pass0 (pa_cons (pv 0) (pa_cons pe_int pa_nil)))))
    (Evl.pss_cut (ps_set (i := 6) sc_law_c_net.nd rfl (.inl rfl) (pe_ifExp (pt_cmpR op_gt (pv 3) pe_int (nomark _)) (pe_op op_sub (pe_op op_sub (pv 3) pe_int) (pe_call G_law_pick (hr.mono (by omega)) (by rfl) T.m_law_pick T.F_law_pick.kp T.b_law_pick .nil pass0 (pa_cons (pv 0) (pa_cons (pe_callB (call_min2 rfl) (by rfl) T.m_min (by decide +kernel) (pa_cons (pv 3) (pa_cons pe_int pa_nil))) pa_nil)))) pe_int))
    (pss_one (ps_if (pt_cmpR op_lt (pv 5) pe_int (nomark _))
    (pss_one (ps_expr (pe_bm PySem.F.plainAttrs_list PySem.F.slot_list_append PySem.F.type_list_append mt_append (pv 2) (pa_cons (pe_tup (pa_cons (pv 4) (pa_cons (pe_tup pa_nil) (pa_cons (pe_cmpR op_gt (pe_call G_law_pick (hr.mono (by omega)) (by rfl) T.m_law_pick T.F_law_pick.kp T.b_law_pick .nil pass0 (pa_cons (pv 0) (pa_cons pe_int pa_nil))) pe_int (nomark _)) pa_nil)))) pa_nil))))
    (pss_one (ps_if (pt_cmpR op_lt (pv 5) pe_int (nomark _))
    (pss_one (ps_expr (pe_bm PySem.F.plainAttrs_list PySem.F.slot_list_append PySem.F.type_list_append mt_append (pv 2) (pa_cons (pe_tup (pa_cons (pe_ix ix_tup (pe_ix ix_list (pv 2) (pv 6) (fun _ _ => rfl)) pe_int (fun _ _ => rfl)) (pa_cons (pe_tup (pa_cons (pv 6) pa_nil)) (pa_cons pe_bl pa_nil)))) pa_nil))))
    (pss_cons (ps_set (i := 7) sc_law_c_net.nd rfl (.inl rfl) (pe_lst (pa_cons (pv 6) pa_nil)))
    (pss_cons (ps_for PassesOwn.never rfl (pi_range1 rfl T.m_range (pa_cons (pe_ix ix_list (pe_lst (pa_cons pe_int (pa_cons pe_int (pa_cons pe_int (pa_cons pe_int (pa_cons pe_int pa_nil)))))) (pe_call G_law_pick (hr.mono (by omega)) (by rfl) T.m_law_pick T.F_law_pick.kp T.b_law_pick .nil pass0 (pa_cons (pv 0) (pa_cons pe_int pa_nil))) (fun _ _ => rfl)) pa_nil)) (pg_name (i := 8) sc_law_c_net.nd rfl (.inl rfl))
    (pss_one (ps_expr (pe_bm PySem.F.plainAttrs_list PySem.F.slot_list_append PySem.F.type_list_append mt_append (pv 7) (pa_cons (pe_call G_law_pick (hr.mono (by omega)) (by rfl) T.m_law_pick T.F_law_pick.kp T.b_law_pick .nil pass0 (pa_cons (pv 0) (pa_cons (pv 3) pa_nil))) pa_nil)))))
    (pss_one (ps_expr (pe_bm PySem.F.plainAttrs_list PySem.F.slot_list_append PySem.F.type_list_append mt_append (pv 2) (pa_cons (pe_tup (pa_cons (pv 4) (pa_cons (pe_callTy call_tuple_of (by rfl) T.m_tuple (by decide +kernel) (pa_cons (pv 7) pa_nil)) (pa_cons pe_bl pa_nil)))) pa_nil))))))))))))))
    (pss_one (ps_ret (pv 2))))), ?_⟩
    walk_at "s"
    rename_i R hR
    have nsR : s ≠ R := ne_of_none hs hR
    refine for_range (lo := 0) (n := many.toNat) (fun i σ H2 => ∃ (v3 v4 v5 v6 v7 v8 : Option V) (a b c : Int) (ys : List V) (rs : List Rw), σ = [some (.ref s), some (.int many), some (.ref R), v3, v4, v5, v6, v7, v8] ∧ But s H H2 ∧ H2 s = some (.lst [.int a, .int b, .int c]) ∧
      H2 R = some (.lst ys) ∧ Each (RowT H2) ys rs ∧ WF rs ∧ rs.length = i) ?_ ?_ ?_
    · exact ⟨_, _, _, _, _, _, a0, b0, c0, [], [], rfl, .of (same_new hR), by walk_at "hp", upd_same, .nil, .nil, rfl⟩
    · intro i σ H2 hi hP
      obtain ⟨v3, v4, v5, v6, v7, v8, a, b, c, ys, rs, rfl, but, h1, h2, h3, h4, h5⟩ := hP
      have hyl := h3.len
      simp only [Int.zero_add]
      have hX2 : s ≠ R := nsR
      walk_at "s"
      refine ⟨fun σ' H' => ∃ (z a b c : Int), σ' = [some (.ref s), some (.int many), some (.ref R), some (.int i), some (.int z), v5, v6, v7, v8] ∧ But s H2 H' ∧ H' s = some (.lst [.int a, .int b, .int c]) ∧ 1 ≤ z ∧ z ≤ 3, ?_, fun σ' H' hM => ?_⟩
      · walk_at "s"
        rename_i L hL k a1 b1 c1 k0 k1
        have nsL : s ≠ L := ne_of_none h1 hL
        obtain ⟨v, hv, hat⟩ := pick_at (l := [0, 0, 0, 1, 2]) k0 k1
        have hv := mem02 hv
        refine ⟨_, _, _, _, rfl, rfl, SqL.of ((upd_ne nsL.symm).trans upd_same), hat, ?_⟩
        walk_at "s"
        exact ⟨_, _, _, _, rfl, (But.of (same_new hL)).trans But.upd, upd_same, by omega, by omega⟩
      obtain ⟨z, a, b, c, rfl, but1, h1, hz, hz3⟩ := hM
      refine ⟨fun σ' H'' => ∃ (k a b c : Int), σ' = [some (.ref s), some (.int many), some (.ref R), some (.int i), some (.int z), some (.int k), v6, v7, v8] ∧ But s H2 H'' ∧ H'' s = some (.lst [.int a, .int b, .int c]) ∧ ((i : Int) < 2 → k = 0), ?_, fun σ' H'' hM => ?_⟩
      · walk_at "s"
        · exact ⟨0, _, _, _, rfl, but1, h1, fun _ => rfl⟩
        · rename_i e k a1 b1 c1 k0 k1
          exact ⟨k, _, _, _, rfl, but1.trans But.upd, upd_same, fun h => absurd h e⟩
      obtain ⟨k, a, b, c, rfl, but2, h1, hk⟩ := hM
      refine ⟨fun σ' H'' => ∃ (r a b c : Int), σ' = [some (.ref s), some (.int many), some (.ref R), some (.int i), some (.int z), some (.int k), some (.int r), v7, v8] ∧ But s H2 H'' ∧ H'' s = some (.lst [.int a, .int b, .int c]) ∧ (0 < i → 0 ≤ r ∧ r < i), ?_, fun σ' H'' hM => ?_⟩
      · walk_at "s"
        · rename_i e k2 a1 b1 c1 k0 k1
          exact ⟨_, _, _, _, rfl, but2.trans But.upd, upd_same, fun _ => by split at k1 <;> omega⟩
        · rename_i e
          exact ⟨0, _, _, _, rfl, but2, h1, fun h => by omega⟩
      obtain ⟨r, a, b, c, rfl, but3, h1, hr'⟩ := hM
      have h2' := but3 _ _ nsR.symm h2
      have h3' := h3.mono fun _ _ => RowT.ts (Ts.but but3 ‹_›)
      walk_at "s"
      · rename_i e O hO kk a1 b1 c1 k0 k1 t ht
        have hO2 : upd (upd H'' O (.tup [])) s (.lst [.int a1, .int b1, .int c1]) O = some (.tup []) := (upd_ne (ne_of_none h1 hO).symm).trans upd_same
        have t1 : Ts H'' (upd (upd (upd H'' O (.tup [])) s (.lst [.int a1, .int b1, .int c1])) t (.tup [.int z, .ref O, .bl (decide (0 < kk))])) :=
          ((Ts.of (same_new hO)).trans (Ts.upd (by walk_at "hp"))).trans (Ts.of (same_new ht))
        have nRt : R ≠ t := ne_of_none (by walk_at "hp") ht
        have nRO : R ≠ O := ne_of_none h2' hO
        have ntO : O ≠ t := ne_of_none hO2 ht
        refine ⟨_, _, _, _, _, _, _, _, _, _, rs ++ [⟨z, [], decide (0 < kk)⟩], rfl, but_mut ((((but.trans but3).trans' (same_new hO)).trans But.upd).trans' (same_new ht)) hR, by walk_at "hp", upd_same, ?_, ?_, by simp [h5]⟩
        · refine (h3'.mono fun _ _ => RowT.ts (t1.trans (Ts.upd (by walk_at "hp")))).snoc ⟨t, O, rfl, ?_, ?_⟩
          · exact (upd_ne nRt.symm).trans upd_same
          · show _ = _
            exact (upd_ne nRO.symm).trans ((upd_ne ntO).trans hO2)
        · exact h4.snoc ⟨hz, by simp, by simp, by show 0 + 10 * z.toNat ≤ 34; omega⟩
      · rename_i e1 e2
        have hi0 : 0 < i := by
          rcases Nat.lt_or_ge i 2 with h | h
          · have := hk (by omega)
            omega
          · omega
        obtain ⟨r0, r1⟩ := hr' hi0
        have hrl : r.toNat < rs.length := by omega
        have er : rs[r.toNat]? = some rs[r.toNat] := List.getElem?_eq_getElem hrl
        obtain ⟨u, eu, t0, o0, rfl, ht0, ho0⟩ := h3'.get er
        have hat : atI ys r = some (.ref t0) := by
          rw [show r = ((r.toNat : Nat) : Int) from by omega]
          exact atI_nat eu
        refine ⟨_, _, _, _, rfl, rfl, SqL.of h2', hat, ?_⟩
        walk_at "s"
        rename_i O hO t ht
        have hO2 : upd H'' O (.tup [.int r]) O = some (.tup [.int r]) := upd_same
        have t1 : Ts H'' (upd (upd H'' O (.tup [.int r])) t (.tup [.int rs[r.toNat].sz, .ref O, .bl false])) := (Ts.of (same_new hO)).trans (Ts.of (same_new ht))
        have nRt : R ≠ t := ne_of_none (by walk_at "hp") ht
        have nRO : R ≠ O := ne_of_none h2' hO
        have ntO : O ≠ t := ne_of_none hO2 ht
        refine ⟨_, _, _, _, _, _, _, _, _, _, rs ++ [⟨rs[r.toNat].sz, [r], false⟩], rfl, but_mut ((((but.trans but3).trans' (same_new hO))).trans' (same_new ht)) hR, by walk_at "hp", upd_same, ?_, ?_, by simp [h5]⟩
        · refine (h3'.mono fun _ _ => RowT.ts (t1.trans (Ts.upd (by walk_at "hp")))).snoc ⟨t, O, rfl, ?_, ?_⟩
          · exact (upd_ne nRt.symm).trans upd_same
          · show _ = _
            exact (upd_ne nRO.symm).trans ((upd_ne ntO).trans hO2)
        · exact h4.snoc ⟨(h4 _ _ er).1, by simp; omega, by simp, by have := (h4 _ _ er).sz3; show 1 + 10 * rs[r.toNat].sz.toNat ≤ 34; omega⟩
      · rename_i e1 e2 P0 hP0 L hL kk a1 b1 c1 k0 k1
        have hi0 : 2 ≤ i := by
          rcases Nat.lt_or_ge i 2 with h | h
          · have := hk (by omega)
            omega
          · omega
        obtain ⟨r0, r1⟩ := hr' (by omega)
        have nsP : s ≠ P0 := ne_of_none h1 hP0
        have nsL : s ≠ L := ne_of_none (by walk_at "hp") hL
        have nPL : P0 ≠ L := ne_of_none upd_same hL
        have nRP : R ≠ P0 := ne_of_none h2' hP0
        have nRL : R ≠ L := ne_of_none (by walk_at "hp") hL
        obtain ⟨v, hv, hat⟩ := pick_at (l := [0, 1, 1, 1, 2]) k0 k1
        have hv := mem12 hv
        refine ⟨_, _, _, _, rfl, rfl, SqL.of ((upd_ne nsL.symm).trans upd_same), hat, ?_⟩
        walk_at "s"
        have nHP : H P0 = none := (but.trans but3).free nsP.symm hP0
        refine for_range (lo := 0) (n := v.toNat) (fun j σ H3 => ∃ (v8 : Option V) (a b c : Int) (ops : List Int), σ = [some (.ref s), some (.int many), some (.ref R), some (.int i), some (.int z), some (.int k), some (.int r), some (.ref P0), v8] ∧ But s H H3 ∧ Ts H'' H3 ∧
          H3 s = some (.lst [.int a, .int b, .int c]) ∧ H3 R = some (.lst ys) ∧ Ints H3 P0 ops ∧ ops.length = j + 1 ∧ ∀ o ∈ ops, 0 ≤ o ∧ o < (i : Int)) ?_ ?_ ?_
        · exact ⟨_, a1, b1, c1, [r], rfl, (((but.trans but3).trans' (same_new hP0)).trans' (same_new hL)).trans But.upd, ((Ts.of (same_new hP0)).trans (Ts.of (same_new hL))).trans (Ts.upd (by walk_at "hp")), upd_same, by walk_at "hp", by
            show _ = _
            exact (upd_ne nsP.symm).trans ((upd_ne nPL).trans upd_same), rfl, by simp; omega⟩
        · intro j σ H3 hj hP
          obtain ⟨v8, a2, b2, c2, ops, rfl, bu, ts, g1, g2, g3, g4, g5⟩ := hP
          simp only [Int.zero_add]
          have hz0 : (ops.map V.int).length ≤ 20 := by
            rw [List.length_map]
            omega
          have g3' : H3 P0 = some (.lst (ops.map V.int)) := g3
          walk_at "s"
          rename_i k3 a3 b3 c3 y0 y1
          refine ⟨_, a3, b3, c3, ops ++ [k3], rfl, but_mut (bu.trans But.upd) nHP, (ts.trans (Ts.upd g1)).trans (Ts.upd ((upd_ne nsP.symm).trans g3')), (upd_ne nsP).trans upd_same, (upd_ne nRP).trans ((upd_ne nsR.symm).trans g2), ?_, by simp [g4], ?_⟩
          · show upd _ _ _ _ = _
            rw [upd_same, nums_snoc]
          · intro o ho
            rcases List.mem_append.mp ho with ho | ho
            · exact g5 o ho
            · rw [List.mem_singleton] at ho
              subst ho
              exact ⟨y0, y1⟩
        · intro σ H3 hP
          obtain ⟨v8, a2, b2, c2, ops, rfl, bu, ts, g1, g2, g3, g4, g5⟩ := hP
          have g3' : H3 P0 = some (.lst (ops.map V.int)) := g3
          walk_at "s"
          refine ⟨P0, _, rfl, .inl ⟨SqL.of g3', fun O hO => ?_⟩⟩
          walk_at "s"
          rename_i t ht
          have hO2 : upd H3 O (.tup (ops.map V.int)) O = some (.tup (ops.map V.int)) := upd_same
          have t1 : Ts H'' (upd (upd H3 O (.tup (ops.map V.int))) t (.tup [.int z, .ref O, .bl false])) := (ts.trans (Ts.of (same_new hO))).trans (Ts.of (same_new ht))
          have nRO : R ≠ O := ne_of_none g2 hO
          have nRt : R ≠ t := ne_of_none ((upd_ne nRO).trans g2) ht
          have ntO : O ≠ t := ne_of_none hO2 ht
          have nsO : s ≠ O := ne_of_none g1 hO
          have nst : s ≠ t := ne_of_none ((upd_ne nsO).trans g1) ht
          refine ⟨_, _, _, _, _, _, _, _, _, _, rs ++ [⟨z, ops, false⟩], rfl, but_mut ((bu.trans' (same_new hO)).trans' (same_new ht)) hR, (upd_ne nsR).trans ((upd_ne nst).trans ((upd_ne nsO).trans g1)), upd_same, ?_, ?_, by simp [h5]⟩
          · refine (h3'.mono fun _ _ => RowT.ts (t1.trans (Ts.upd ((upd_ne nRt).trans ((upd_ne nRO).trans g2))))).snoc ⟨t, O, rfl, ?_, ?_⟩
            · exact (upd_ne nRt.symm).trans upd_same
            · show _ = _
              exact (upd_ne nRO.symm).trans ((upd_ne ntO).trans hO2)
          · exact h4.snoc ⟨hz, by rw [h5]; exact g5, by simp, by show ops.length + 10 * z.toNat ≤ 34; rw [g4]; omega⟩
    · intro σ H2 hP
      obtain ⟨v3, v4, v5, v6, v7, v8, a, b, c, ys, rs, rfl, but, h1, h2, h3, h4, h5⟩ := hP
      walk_at "s"
      exact q R H2 rs but hR ⟨a, b, c, h1⟩ ⟨ys, h2, h3⟩ h4 (by omega)
end
end K15W
set_option Elab.async false
set_option linter.all false
set_option maxRecDepth 100000
set_option maxHeartbeats 4000000
/-! Rules15: xs[i] += e of a list. -/
namespace LW
open PySem PySem.Spec PyProof.Rows L2
section
variable {X : Cx}
def rGetL (K : PySem.W.Frag) : V → V → Hp → VK → Prop := fun o i H Q => ∃ p xs k v, o = .ref p ∧ i = .int k ∧ SqL K H p xs ∧ 0 ≤ k ∧ atI xs k = some v ∧ Q v H
theorem get_listN : PGet X (rGetL X.K) := by
  intro pins s σ H o i ov iv Q I ro ri h
  obtain ⟨p, xs, k, v, rfl, rfl, hq, h0, ha, q⟩ := h
  cases ro
  obtain ⟨t, rfl⟩ := ri
  obtain ⟨its, r, pl, hz⟩ := I.list hq
  obtain ⟨j, h1, h2, h3, h4, h5⟩ := atI_get ha
  obtain ⟨u, eu, ru⟩ := r.get h2
  have ej : k.toNat = j := by
    rw [PySem.seqIndex_of h0 h5] at h1
    exact Option.some.inj h1
  have small := line63
  have len := r.length
  exact PySem.wpAny_getItem_list pl.isList h0 (by omega) (by rw [ej]; simpa using eu) ⟨v, H, I, ru, q⟩
theorem for_rangeCQ {lo c : Int} {n : Nat} {g : TG} {tb : TS} {D : Ends} {σ : L2.St} {H : Hp} (R : VK) (hR : D.rt = R) (Pv : Nat → L2.St → Hp → Prop) (h0 : Pv 0 σ H)
    (hs : ∀ (N X : L2.St → Hp → Prop) i σ H, i < n → Pv i σ H → (∀ σ' H', Pv (i + 1) σ' H' → N σ' H') → g (.int (lo + (i : Nat) * c)) σ H fun σ2 H2 => tb ⟨N, R, X, N⟩ σ2 H2) (hd : ∀ σ H, Pv n σ H → D.nx σ H) :
    ∃ W : Nat → Nat → L2.St → Hp → Prop, (∃ m, W 0 m σ H) ∧ ∀ i m σ H, W i m σ H →
      ((Itc lo c n).stop i H ∧ D.nx σ H) ∨ ((Itc lo c n).go i H ∧ ∃ N : L2.St → Hp → Prop, (∀ σ' H', N σ' H' → ∃ m', m' < m ∧ W (i + 1) m' σ' H') ∧ ∀ x H', (Itc lo c n).yld i H x H' → g x σ H' fun σ2 H2 => tb { D with nx := N, ct := N, bk := D.nx } σ2 H2) := by
  subst hR
  refine ⟨fun i m σ H => m + i = n ∧ Pv i σ H, ⟨n, by omega, h0⟩, ?_⟩
  rintro i m σ H ⟨hm, p⟩
  by_cases hlt : i < n
  · refine .inr ⟨hlt, Pv (i + 1), fun σ' H' p' => ⟨m - 1, by omega, by omega, p'⟩, fun x H' y => ?_⟩
    obtain ⟨rfl, rfl⟩ := y
    exact hs (Pv (i + 1)) D.nx i σ _ hlt p fun _ _ h => h
  · have e : i = n := by omega
    subst e
    exact .inl ⟨Nat.le_refl _, hd σ H p⟩
/-- a tuple of names as a comprehension's target -/
theorem pg_tupB {K : PySem.W.Frag} {n : Nat} {pos : Pos} {es : List Expr} {k : Nat} {t : TGs} (hK : X.K = K) (hc : X.calm = true) (h : PGs X es t) (hn : (assignEach es X.env).length = n := by rfl) (hst : (assignEach es X.env).findIdx? (·.1) = none := by rfl) : PG X (.Tuple es k pos) (gTup K n t) := by
  subst hK
  exact pg_tup hc h hn hst
end
end LW
set_option Elab.async false
set_option linter.all false
set_option maxRecDepth 100000
/-! K15Heap: arcs, lines, amounts in the heap. -/
namespace NF
open PySem PySem.Spec PyProof.Rows L2 TL LW NT FL
def CapV : Option Int → V
  | none => .non
  | some c => .int c
def ArcV (H : Hp) (v : V) (a : Ar) : Prop := ∃ t, v = .ref t ∧ H t = some (.tup [.int a.lo, .int a.hi, CapV a.cap])
theorem ArcV.ts {H H' : Hp} (e : Ts H H') {v : V} {a : Ar} : ArcV H v a → ArcV H' v a := fun ⟨t, h1, h2⟩ => ⟨t, h1, e _ _ h2⟩
def ArcsAt (H : Hp) (A : Addr) (as : List Ar) : Prop := ∃ xs, H A = some (.lst xs) ∧ Each (ArcV H) xs as
theorem ArcsAt.same {H H' : Hp} (e : Same H H') {A : Addr} {as : List Ar} : ArcsAt H A as → ArcsAt H' A as := fun ⟨xs, h1, h2⟩ => ⟨xs, e _ _ h1, h2.mono fun _ _ => ArcV.ts (Ts.of e)⟩
abbrev Ln := Nat × Nat × Bool
def LineV (H : Hp) (v : V) (l : Ln) : Prop := ∃ t, v = .ref t ∧ H t = some (.tup [.int l.1, .int l.2.1, .bl l.2.2])
theorem LineV.ts {H H' : Hp} (e : Ts H H') {v : V} {l : Ln} : LineV H v l → LineV H' v l := fun ⟨t, h1, h2⟩ => ⟨t, h1, e _ _ h2⟩
/-- the lines at a point, of the first arcs -/
def lineN (as : List Ar) (p : Nat) : Nat → List Ln
  | 0 => []
  | i + 1 => lineN as p i ++ (if (ar as i).lo = p then [(i, (ar as i).hi, true)] else []) ++ (if (ar as i).hi = p then [(i, (ar as i).lo, false)] else [])
def lineL (as : List Ar) (p : Nat) : List Ln := lineN as p as.length
theorem lineN_len {as : List Ar} {p : Nat} : ∀ n, (lineN as p n).length ≤ 2 * n
  | 0 => Nat.le_refl _
  | n + 1 => by
    have := lineN_len (as := as) (p := p) n
    unfold lineN
    rw [List.length_append, List.length_append]
    have a : (if (ar as n).lo = p then [(n, (ar as n).hi, true)] else ([] : List Ln)).length ≤ 1 := by split <;> simp
    have b : (if (ar as n).hi = p then [(n, (ar as n).lo, false)] else ([] : List Ln)).length ≤ 1 := by split <;> simp
    omega
theorem mem_lineN {as : List Ar} {p : Nat} {l : Ln} : ∀ {n : Nat}, l ∈ lineN as p n ↔ l.1 < n ∧ begP as l.1 l.2.2 = p ∧ l.2.1 = endP as l.1 l.2.2
  | 0 => by
    constructor
    · intro h; cases h
    · intro h; omega
  | n + 1 => by
    unfold lineN
    rw [List.mem_append, List.mem_append, mem_lineN (n := n)]
    obtain ⟨i, q, fw⟩ := l
    constructor
    · rintro ((h | h) | h)
      · exact ⟨by have := h.1; omega, h.2⟩
      · split at h
        · rename_i e
          rw [List.mem_singleton] at h
          cases h
          exact ⟨Nat.lt_succ_self n, e, rfl⟩
        · cases h
      · split at h
        · rename_i e
          rw [List.mem_singleton] at h
          cases h
          exact ⟨Nat.lt_succ_self n, e, rfl⟩
        · cases h
    · rintro ⟨h1, h2, h3⟩
      by_cases k : i < n
      · exact .inl (.inl ⟨k, h2, h3⟩)
      · have : i = n := by simp only at h1; omega
        subst this
        cases fw
        · refine .inr ?_
          have h2 : (ar as i).hi = p := h2
          have h3 : q = (ar as i).lo := h3
          rw [if_pos h2, h3]
          exact List.mem_singleton.mpr rfl
        · refine .inl (.inr ?_)
          have h2 : (ar as i).lo = p := h2
          have h3 : q = (ar as i).hi := h3
          rw [if_pos h2, h3]
          exact List.mem_singleton.mpr rfl
theorem mem_lineL {as : List Ar} {p : Nat} {l : Ln} : l ∈ lineL as p ↔ l.1 < as.length ∧ begP as l.1 l.2.2 = p ∧ l.2.1 = endP as l.1 l.2.2 := mem_lineN
/-- all lines, so far -/
def LinesN (H : Hp) (ls : List Addr) (as : List Ar) (n : Nat) : Prop := ls.Nodup ∧ ∀ (p : Nat) (a : Addr), ls[p]? = some a → ∃ es, H a = some (.lst es) ∧ Each (LineV H) es (lineN as p n)
def LinesAt (H : Hp) (L : Addr) (as : List Ar) (P : Nat) : Prop := ∃ ls : List Addr, H L = some (.lst (ls.map V.ref)) ∧ ls.length = P ∧ LinesN H ls as as.length
theorem LinesN.same {H H' : Hp} (e : Same H H') {ls : List Addr} {as : List Ar} {n : Nat} : LinesN H ls as n → LinesN H' ls as n := fun ⟨h0, h1⟩ => ⟨h0, fun p a h => by
  obtain ⟨es, k1, k2⟩ := h1 p a h
  exact ⟨es, e _ _ k1, k2.mono fun _ _ => LineV.ts (Ts.of e)⟩⟩
theorem LinesAt.same {H H' : Hp} (e : Same H H') {L : Addr} {as : List Ar} {P : Nat} : LinesAt H L as P → LinesAt H' L as P := fun ⟨ls, h1, h2, h3⟩ => ⟨ls, e _ _ h1, h2, h3.same e⟩
theorem LinesAt.at {H : Hp} {L : Addr} {as : List Ar} {P p : Nat} (h : LinesAt H L as P) (hp : p < P) : ∃ (xs : List V) (a : Addr) (es : List V), H L = some (.lst xs) ∧ atI xs (p : Int) = some (.ref a) ∧ H a = some (.lst es) ∧ Each (LineV H) es (lineL as p) := by
  obtain ⟨ls, h1, h2, _, h3⟩ := h
  have e : ls[p]? = some ls[p] := List.getElem?_eq_getElem (by omega)
  obtain ⟨es, k1, k2⟩ := h3 p _ e
  exact ⟨_, ls[p], es, h1, atI_nat (by rw [List.getElem?_map, e]; rfl), k1, k2⟩
/-- amounts -/
def fn (fs : List Int) (i : Nat) : Int := fs.getD i 0
theorem fn_set {fs : List Int} {i : Nat} {x : Int} (h : i < fs.length) : fn (fs.set i x) = fun j => if j = i then x else fn fs j := by
  funext j
  unfold fn
  rw [List.getD_eq_getElem?_getD, List.getD_eq_getElem?_getD, List.getElem?_set]
  by_cases e : j = i
  · subst e
    rw [if_pos rfl, if_pos h, if_pos rfl]
    rfl
  · rw [if_neg (Ne.symm e), if_neg e]
theorem fn_at {fs : List Int} {i : Nat} (h : i < fs.length) : atI (fs.map V.int) (i : Int) = some (.int (fn fs i)) := atI_nat (by
  rw [List.getElem?_map, List.getElem?_eq_getElem h]
  unfold fn
  rw [List.getD_eq_getElem?_getD, List.getElem?_eq_getElem h]
  rfl)
theorem arc_at {H : Hp} {xs : List V} {as : List Ar} {i : Nat} (h : Each (ArcV H) xs as) (hi : i < as.length) : ∃ t, atI xs (i : Int) = some (.ref t) ∧ H t = some (.tup [.int (ar as i).lo, .int (ar as i).hi, CapV (ar as i).cap]) := by
  obtain ⟨v, hv, t, rfl, ht⟩ := h.get (List.getElem?_eq_getElem hi)
  refine ⟨t, atI_nat hv, ?_⟩
  have e : ar as i = as[i] := by
    unfold ar
    rw [List.getD_eq_getElem?_getD, List.getElem?_eq_getElem hi]
    rfl
  rw [e]
  exact ht
instance passDec (as : List Ar) (f : Nat → Int) (i : Nat) (fw : Bool) : Decidable (pass as f i fw) := by
  unfold pass
  by_cases h : fw = true
  · rw [if_pos h]
    cases e : (ar as i).cap with
    | none => exact isTrue fun c z => by cases z
    | some c => exact decidable_of_iff (f i < c) ⟨fun k c' z => by cases z; exact k, fun k => k c rfl⟩
  · rw [if_neg h]
    exact inferInstance
end NF
set_option Elab.async false
set_option linter.all false
set_option maxRecDepth 100000
/-! K15Bfs: a queue of points: plain. -/
namespace NF
open PySem PySem.Spec PyProof.Rows L2 TL LW NT FL
def pos : List Nat → Nat → Nat
  | [], _ => 0
  | x :: r, p => if x = p then 0 else pos r p + 1
theorem pos_at : ∀ {qs : List Nat} {j p : Nat}, qs.Nodup → qs[j]? = some p → pos qs p = j
  | [], _, _, _, h => by simp at h
  | x :: r, 0, p, _, h => by
    have h : x = p := by simpa using h
    exact if_pos h
  | x :: r, j + 1, p, nd, h => by
    have h : r[j]? = some p := by simpa using h
    have nx := (List.nodup_cons.mp nd).1
    show (if x = p then 0 else pos r p + 1) = _
    rw [if_neg fun z => nx (by rw [z]; exact List.mem_of_getElem? h), pos_at (List.nodup_cons.mp nd).2 h]
theorem nodup_lt : ∀ (N : Nat) {l : List Nat}, l.Nodup → (∀ x ∈ l, x < N) → l.length ≤ N
  | 0, l, _, h => by
    cases l with
    | nil => exact Nat.le_refl _
    | cons x r => exact absurd (h x List.mem_cons_self) (Nat.not_lt_zero _)
  | N + 1, l, nd, h => by
    have k := nodup_lt N (l := l.erase N) (nd.erase N) fun x hx => by
      have a := (List.Nodup.mem_erase_iff nd).mp hx
      have b := h x a.2
      have := a.1
      omega
    rw [List.length_erase] at k
    split at k
    · omega
    · rename_i n
      have := nodup_lt N nd fun x hx => by
        have := h x hx
        have : x ≠ N := fun z => n (by rw [← z]; exact hx)
        omega
      omega
/-- the dict of a search: what is known of each key -/
def kv (kvs : List (Key × V)) (p : Nat) : Option V := valV kvs (Sum.inl (p : Int) : Key)
/-- a key's entry: how it was met -/
def Met (H : Hp) (as : List Ar) (f : Nat → Int) (qs : List Nat) (S p : Nat) (v : V) : Prop := (p = S ∧ v = .non) ∨ ∃ (t : Addr) (i : Nat) (fw : Bool) (j k : Nat), v = .ref t ∧ H t = some (.tup [.int (i : Nat), .int (begP as i fw : Nat), .bl fw]) ∧ i < as.length ∧ pass as f i fw ∧ endP as i fw = p ∧ p ≠ S ∧ qs[j]? = some p ∧ qs[k]? = some (begP as i fw) ∧ k < j
theorem Met.ts {H H' : Hp} (e : Ts H H') {as : List Ar} {f : Nat → Int} {qs : List Nat} {S p : Nat} {v : V} : Met H as f qs S p v → Met H' as f qs S p v
  | .inl h => .inl h
  | .inr ⟨t, i, fw, j, k, h1, h2, h3⟩ => .inr ⟨t, i, fw, j, k, h1, e _ _ h2, h3⟩
theorem Met.more {H : Hp} {as : List Ar} {f : Nat → Int} {qs : List Nat} {S p : Nat} {v : V} (q : Nat) : Met H as f qs S p v → Met H as f (qs ++ [q]) S p v
  | .inl h => .inl h
  | .inr ⟨t, i, fw, j, k, h1, h2, h3, h4, h5, h6, h7, h8, h9⟩ => .inr ⟨t, i, fw, j, k, h1, h2, h3, h4, h5, h6, by rw [List.getElem?_append_left (List.getElem?_eq_some_iff.mp h7).1]; exact h7, by rw [List.getElem?_append_left (List.getElem?_eq_some_iff.mp h8).1]; exact h8, h9⟩
/-- a search under way -/
structure Srch (H : Hp) (as : List Ar) (f : Nat → Int) (S N : Nat) (qs : List Nat) (kvs : List (Key × V)) : Prop where
  nd : qs.Nodup
  lt : ∀ p ∈ qs, p < N
  hd : qs[0]? = some S
  len : kvs.length ≤ qs.length
  key : ∀ p : Nat, (kv kvs p).isSome = true ↔ p ∈ qs
  met : ∀ p v, kv kvs p = some v → Met H as f qs S p v
theorem Srch.ts {H H' : Hp} (e : Ts H H') {as : List Ar} {f : Nat → Int} {S N : Nat} {qs : List Nat} {kvs : List (Key × V)} (h : Srch H as f S N qs kvs) : Srch H' as f S N qs kvs := ⟨h.nd, h.lt, h.hd, h.len, h.key, fun p v k => (h.met p v k).ts e⟩
theorem kv_put {kvs : List (Key × V)} {q p : Nat} {v : V} : kv (putK kvs (Sum.inl (q : Int)) v) p = if p = q then some v else kv kvs p := by
  unfold kv
  rw [valV_put]
  by_cases h : p = q
  · subst h
    rw [if_pos rfl, if_pos rfl]
  · rw [if_neg h, if_neg fun z => h (by injection z with z; omega)]
theorem Srch.put {H H' : Hp} {as : List Ar} {f : Nat → Int} {S N : Nat} {qs : List Nat} {kvs : List (Key × V)} (h : Srch H as f S N qs kvs) (e : Ts H H') {t i j : Nat} {fw : Bool} (ht : H' t = some (.tup [.int (i : Nat), .int (begP as i fw : Nat), .bl fw]))
    (hi : i < as.length) (hp : pass as f i fw) (hj : qs[j]? = some (begP as i fw)) (hq : endP as i fw < N) (new : kv kvs (endP as i fw) = none) : Srch H' as f S N (qs ++ [endP as i fw]) (putK kvs (Sum.inl (endP as i fw : Int)) (.ref t)) := by
  have nq : endP as i fw ∉ qs := fun z => by
    have := (h.key _).mpr z
    rw [new] at this
    cases this
  have hl : 0 < qs.length := (List.getElem?_eq_some_iff.mp h.hd).1
  refine ⟨?_, fun p hp => ?_, by rw [List.getElem?_append_left hl]; exact h.hd, ?_, fun p => ?_, fun p v k => ?_⟩
  · rw [List.nodup_append]
    refine ⟨h.nd, by simp, fun a ha b hb z => ?_⟩
    rw [List.mem_singleton] at hb
    exact nq (by rw [← hb, ← z]; exact ha)
  · rcases List.mem_append.mp hp with hp | hp
    · exact h.lt p hp
    · rw [List.mem_singleton] at hp
      rw [hp]
      exact hq
  · have := length_putK kvs (Sum.inl (endP as i fw : Int)) (V.ref t)
    have := h.len
    rw [List.length_append, List.length_singleton]
    omega
  · rw [kv_put, List.mem_append, List.mem_singleton]
    by_cases z : p = endP as i fw
    · rw [if_pos z]
      exact ⟨fun _ => .inr z, fun _ => rfl⟩
    · rw [if_neg z, h.key]
      exact ⟨fun k => .inl k, fun k => k.elim id fun k => absurd k z⟩
  · rw [kv_put] at k
    by_cases z : p = endP as i fw
    · rw [if_pos z] at k
      cases k
      subst z
      refine .inr ⟨t, i, fw, qs.length, j, rfl, ht, hi, hp, rfl, fun z => nq (by rw [z]; exact List.mem_of_getElem? h.hd), ?_, ?_, (List.getElem?_eq_some_iff.mp hj).1⟩
      · rw [List.getElem?_append_right (Nat.le_refl _), Nat.sub_self]
        rfl
      · rw [List.getElem?_append_left (List.getElem?_eq_some_iff.mp hj).1]
        exact hj
    · rw [if_neg z] at k
      exact ((h.met p v k).ts e).more _
/-- all steps from the points of the queue's first part lead to points of the queue -/
def Shut (as : List Ar) (f : Nat → Int) (qs : List Nat) (n : Nat) : Prop := ∀ j p, j < n → qs[j]? = some p → ∀ i fw, i < as.length → begP as i fw = p → pass as f i fw → endP as i fw ∈ qs
theorem Shut.more {as : List Ar} {f : Nat → Int} {qs : List Nat} {n : Nat} (h : Shut as f qs n) (hn : n ≤ qs.length) (q : Nat) : Shut as f (qs ++ [q]) n := fun j p hj hp i fw hi hb hpass => by
  rw [List.getElem?_append_left (by omega)] at hp
  exact List.mem_append_left _ (h j p hj hp i fw hi hb hpass)
/-- the end of a search -/
structure Came (H : Hp) (as : List Ar) (f : Nat → Int) (S N : Nat) (C : Addr) (kvs : List (Key × V)) (qs : List Nat) : Prop where
  at_ : H C = some (.dK kvs)
  srch : Srch H as f S N qs kvs
  shut : Shut as f qs qs.length
end NF
set_option Elab.async false
set_option linter.all false
set_option maxRecDepth 100000
/-! K15P2: more of flows on nets: plain. -/
namespace NF
open PySem PySem.Spec PyProof.Rows L2 TL LW NT FL
/-- a step's room, as a value -/
def roomV (as : List Ar) (f : Nat → Int) (i : Nat) (fw : Bool) : V := if fw = true then (match (ar as i).cap with | none => .non | some c => .int (c - f i)) else .int (f i)
theorem pth_pass {as : List Ar} {f : Nat → Int} {po : Nat → Nat} {S : Nat} : ∀ {q : Nat} {st : List (Nat × Bool)}, Pth as f po S q st → ∀ s ∈ st, s.1 < as.length ∧ pass as f s.1 s.2 := by
  intro q st h
  induction h with
  | nil => intro s hs; cases hs
  | @step i fw st hp hi hpass hpo ih =>
    intro s hs
    rcases List.mem_cons.mp hs with hs | hs
    · rw [hs]
      exact ⟨hi, hpass⟩
    · exact ih s hs
/-- from an even to an odd point no way goes on arcs without bound alone -/
theorem room_some {as : List Ar} (nx : ∀ i, i < as.length → (ar as i).cap = none → ¬ ((ar as i).lo % 2 = 0 ∧ (ar as i).hi % 2 = 1)) {f : Nat → Int} {po : Nat → Nat} {S : Nat} (hS : S % 2 = 0) : ∀ {q : Nat} {st : List (Nat × Bool)}, Pth as f po S q st → q % 2 = 1 → ∃ s ∈ st, ∃ d, roomV as f s.1 s.2 = .int d := by
  intro q st h
  induction h with
  | nil => intro h; omega
  | @step i fw st hp hi hpass hpo ih =>
    intro hq
    by_cases hb : begP as i fw % 2 = 1
    · obtain ⟨s, hs, k⟩ := ih hb
      exact ⟨s, List.mem_cons_of_mem _ hs, k⟩
    · refine ⟨(i, fw), List.mem_cons_self, ?_⟩
      unfold roomV
      cases fw
      · exact ⟨_, if_neg (show ¬ ((false : Bool) = true) from by decide)⟩
      · show ∃ d, (if true = true then _ else _) = _
        rw [if_pos rfl]
        cases hc : (ar as i).cap with
        | some c => exact ⟨_, rfl⟩
        | none =>
          unfold begP at hb
          unfold endP at hq
          rw [if_pos rfl] at hb hq
          exact absurd ⟨by omega, hq⟩ (nx i hi hc)
theorem room_pos {as : List Ar} {f : Nat → Int} {i : Nat} {fw : Bool} {d : Int} (hp : pass as f i fw) (h : roomV as f i fw = .int d) : 0 < d := by
  unfold roomV at h
  unfold pass at hp
  cases fw
  · rw [if_neg (by decide)] at h hp
    injection h with h
    omega
  · rw [if_pos rfl] at h hp
    cases hc : (ar as i).cap with
    | none =>
      rw [hc] at h
      cases h
    | some c =>
      rw [hc] at h
      have h : V.int (c - f i) = V.int d := h
      injection h with h
      have := hp c hc
      omega
theorem room_of {as : List Ar} {f : Nat → Int} {i : Nat} {fw : Bool} {d : Int} (h : ∀ e, roomV as f i fw = .int e → d ≤ e) : FL.Room as f i fw d := by
  unfold roomV at h
  unfold FL.Room
  cases fw
  · rw [if_neg (by decide)] at h ⊢
    exact h _ rfl
  · rw [if_pos rfl] at h ⊢
    intro c hc
    rw [hc] at h
    exact h _ rfl
theorem arcs_len {rs : List Rw} {ws : List Int} (h : rs.length ≤ 20) : (arcs rs ws).length ≤ 3000 := by
  have b : ∀ n, (blk rs ws n).length ≤ 23 := fun n => by
    unfold blk
    cases e : rs[n]? with
    | none => exact Nat.zero_le _
    | some r =>
      show (if liv rs ws (n : Int) = true then _ else []).length ≤ 23
      split
      · rw [List.length_cons, List.length_append, List.length_append, List.length_map]
        have a : (if r.src = true then [(⟨2 * rs.length, 2 * n, none⟩ : Ar)] else []).length ≤ 1 := by split <;> simp
        have c : (if (n : Int) ∈ ws then [(⟨2 * n + 1, 2 * rs.length + 1, none⟩ : Ar)] else []).length ≤ 1 := by split <;> simp
        have d : ((sops rs r).filter fun (k : Nat) => liv rs ws (k : Int)).length ≤ 20 := by
          refine Nat.le_trans (List.length_filter_le _ _) ?_
          unfold sops
          refine Nat.le_trans (List.length_filter_le _ _) ?_
          rw [List.length_range]
          exact h
        omega
      · exact Nat.zero_le _
  have k : ∀ l : List Nat, (l.flatMap (blk rs ws)).length ≤ 23 * l.length := fun l => by
    induction l with
    | nil => exact Nat.le_refl _
    | cons x l ih =>
      rw [List.flatMap_cons, List.length_append, List.length_cons]
      have := b x
      omega
  have := k (List.range rs.length)
  rw [List.length_range] at this
  unfold arcs
  omega
theorem arcs_ne {rs : List Rw} (w : WF rs) {ws : List Int} : ∀ i, i < (arcs rs ws).length → (ar (arcs rs ws) i).lo ≠ (ar (arcs rs ws) i).hi := fun i hi => by
  have lt : ∀ {n : Nat} {r : Rw}, rs[n]? = some r → n < rs.length := fun e => (List.getElem?_eq_some_iff.mp e).1
  rcases mem_arcs w (ar_mem hi) with ⟨e, l, h⟩ | ⟨e, l, s, h⟩ | ⟨e, l, o, l2, k, h⟩ | ⟨e, l, s, h⟩
  all_goals
    have := lt e
    rw [h]
    simp
    try omega
theorem arcs_nx {rs : List Rw} (w : WF rs) {ws : List Int} : ∀ i, i < (arcs rs ws).length → (ar (arcs rs ws) i).cap = none → ¬ ((ar (arcs rs ws) i).lo % 2 = 0 ∧ (ar (arcs rs ws) i).hi % 2 = 1) := fun i hi hc => by
  rcases mem_arcs w (ar_mem hi) with ⟨e, l, h⟩ | ⟨e, l, s, h⟩ | ⟨e, l, o, l2, k, h⟩ | ⟨e, l, s, h⟩
  · rw [h] at hc
    cases hc
  all_goals
    rw [h]
    simp
    try omega
theorem arcs_cap {rs : List Rw} (w : WF rs) {ws : List Int} : ∀ i, i < (arcs rs ws).length → ∀ c, (ar (arcs rs ws) i).cap = some c → 0 ≤ c := fun i hi c hc => by
  rcases mem_arcs w (ar_mem hi) with ⟨e, l, h⟩ | ⟨e, l, s, h⟩ | ⟨e, l, o, l2, k, h⟩ | ⟨e, l, s, h⟩
  · rw [h] at hc
    injection hc with hc
    have := (w _ _ e).1
    omega
  all_goals
    rw [h] at hc
    cases hc
def bnd (rs : List Rw) (ws : List Int) : Int := ((lives rs ws).map fun (n : Nat) => if (n : Int) ∈ ws then szN rs n else 0).sum
theorem value_le {rs : List Rw} (w : WF rs) {ws : List Int} (hw : InR rs ws) {f : Nat → Int} (F : Flow (arcs rs ws) (SS rs) (TT rs) f) : div (arcs rs ws) f (SS rs) ≤ bnd rs ws := weak w F fun x hx => by
  obtain ⟨x0, x1⟩ := hw x hx
  obtain ⟨n, rfl⟩ : ∃ n : Nat, x = (n : Int) := ⟨x.toNat, by omega⟩
  rw [flags_at w (List.getElem?_eq_getElem (show n < rs.length by omega))]
  unfold mk1
  rw [decide_eq_true hx]
  rfl
/-- a greatest flow -/
structure Max (rs : List Rw) (ws : List Int) (fs : List Int) : Prop where
  len : fs.length = (arcs rs ws).length
  flow : Flow (arcs rs ws) (SS rs) (TT rs) (fn fs)
  cut : ∃ R : Nat → Bool, R (SS rs) = true ∧ R (TT rs) = false ∧ ∀ i fw, i < (arcs rs ws).length → R (begP (arcs rs ws) i fw) = true → pass (arcs rs ws) (fn fs) i fw → R (endP (arcs rs ws) i fw) = true
theorem fn_rep {n : Nat} : fn (List.replicate n 0) = fun _ => 0 := by
  funext i
  unfold fn
  rw [List.getD_eq_getElem?_getD, List.getElem?_replicate]
  split <;> rfl
theorem push_snoc {d : Int} {i : Nat} {fw : Bool} : ∀ (st : List (Nat × Bool)) (f : Nat → Int), push d (st ++ [(i, fw)]) f = fun k => if k = i then (if fw = true then push d st f k + d else push d st f k - d) else push d st f k
  | [], _ => rfl
  | (j, gw) :: st, f => by
    show push d (st ++ [(i, fw)]) _ = fun k => if k = i then (if fw = true then push d st _ k + d else push d st _ k - d) else push d st _ k
    rw [push_snoc st]
end NF
set_option Elab.async false
set_option linter.all false
set_option maxRecDepth 100000
set_option maxHeartbeats 4000000
namespace K15W
open PySem PySem.Spec PyProof.Rows L2 TL LW NT FL NF
local macro_rules | `(tactic| walk_at "ne") => `(tactic| first
  | (with_reducible assumption)
  | exact Ne.symm (by assumption)
  | (with_reducible exact ne_of_none (by assumption) (by assumption))
  | (with_reducible exact (ne_of_none (by assumption) (by assumption)).symm)
  | (apply ne_of_none; (case h' => assumption); (case h => walk_at "hp"))
  | (apply Ne.symm; apply ne_of_none; (case h' => assumption); (case h => walk_at "hp")))
local macro_rules | `(tactic| walk_at "hp") => `(tactic| first
  | (with_reducible assumption)
  | exact upd_same
  | (with_reducible exact hp_new (by assumption) (by assumption))
  | (apply hp_new; (case n => assumption); (case h => walk_at "hp"))
  | (refine (upd_ne ?ne).trans ?hp; (case ne => walk_at "ne"); (case hp => walk_at "hp")))
local macro_rules | `(tactic| walk_at "sq") => `(tactic| first
  | ((with_reducible show SqL _ _ _ _); assumption)
  | ((with_reducible show SqT _ _ _ _); assumption)
  | exact SqL.of (by assumption)
  | exact SqL.of upd_same
  | exact SqT.of (by assumption)
  | exact SqT.of upd_same
  | (apply SqL.of; walk_at "hp")
  | (apply SqT.of; walk_at "hp"))
local macro_rules | `(tactic| walk_at "len") => `(tactic| first
  | (with_reducible assumption)
  | exact sz_small (by omega)
  | exact sz_less (by omega)
  | decide
  | (refine sz_small ?_; simp only [List.length_append, List.length_cons, List.length_nil, List.length_map, str_len]; omega)
  | (refine sz_less ?_; simp only [List.length_append, List.length_cons, List.length_nil, List.length_map, str_len]; omega))
local macro_rules | `(tactic| walk_at "cond") => `(tactic| first
  | omega
  | (split <;> omega)
  | (with_reducible assumption)
  | exact .inl ⟨by omega, by omega⟩
  | exact .inr ⟨by omega, by omega⟩
  | exact ⟨by omega, by omega⟩
  | (show (0 : Int) < _; omega)
  | (show (0 : Int) < _; decide +kernel)
  | exact ⟨by omega, by omega, by decide⟩
  | walk_at "len"
  | rfl
  | (show CMulW _ _; unfold CMulW; decide +kernel)
  | exact ⟨_, rfl⟩
  | decide +kernel
  | exact ⟨_, by walk_at "sq"⟩
  | exact .inl ⟨rfl, _, by walk_at "sq"⟩)
local macro_rules | `(tactic| walk_at "at") => `(tactic| first
  | (with_reducible assumption)
  | exact atI_nat (by assumption)
  | exact atI_last _ _
  | exact atI_nat (j := 0) rfl
  | exact atI_nat (j := 1) rfl
  | exact atI_nat (j := 2) rfl
  | exact atI_nat (j := 3) rfl
  | exact atI_nat (j := 4) rfl)
local macro_rules | `(tactic| walk_at "ix") => `(tactic| first
  | (with_reducible assumption)
  | (with_reducible exact ixN_0 (by simp; done))
  | (with_reducible exact ixN_1 (by simp; done))
  | (with_reducible exact ixN_2 (by simp; done))
  | (with_reducible exact Evl.ixN_nat (by assumption))
  | (with_reducible exact Evl.ixN_nat (by omega)))
local macro_rules | `(tactic| walk_at "v") => `(tactic| first
  | exact val_var rfl
  | (with_reducible exact val_c)
  | (with_reducible apply val_orV; (case ha => walk_at "v"); (case hb => walk_at "v"))
  | (with_reducible apply val_andV; (case ha => walk_at "v"); (case hb => walk_at "v"))
  | (with_reducible apply val_notV; walk_at "v")
  | (with_reducible apply val_ifS; (case h => walk_at "w"); (case ha => walk_at "v"); (case hb => walk_at "v"))
  | (with_reducible apply val_ifI; (case h => walk_at "w"); (case ha => walk_at "v"); (case hb => walk_at "v"))
  | (with_reducible apply val_ifB; (case h => walk_at "w"); (case ha => walk_at "v"); (case hb => walk_at "v"))
  | (with_reducible apply val_eqS; (case ha => walk_at "v"); (case hb => walk_at "v"))
  | (with_reducible apply val_eqI; (case ha => walk_at "v"); (case hb => walk_at "v"))
  | (with_reducible apply val_neS; (case ha => walk_at "v"); (case hb => walk_at "v"))
  | (with_reducible apply val_neI; (case ha => walk_at "v"); (case hb => walk_at "v"))
  | (with_reducible apply val_op; (case ha => walk_at "v"); (case hb => walk_at "v"); (case hr => exact fun Q q => ⟨_, _, rfl, rfl, q⟩)))
local macro_rules | `(tactic| walk_at "w") => `(tactic| first
  | (with_reducible apply ans_or2; (case h1 => walk_at "w"); (case h2 => walk_at "w"))
  | (with_reducible apply ans_and2; (case h1 => walk_at "w"); (case h2 => walk_at "w"))
  | (with_reducible apply ans_not; walk_at "w")
  | (with_reducible apply ans_test; walk_at "v")
  | (with_reducible apply ans_val; walk_at "v"))
local macro_rules | `(tactic| walk_at "s2") => `(tactic| first
  | refine ⟨_, rfl, ?_⟩
  | refine ⟨_, _, rfl, rfl, ?_⟩
  | (refine And.intro ?cc ?_; (case cc => walk_at "cond"))
  | refine ⟨_, _, _, _, rfl, rfl, by walk_at "sq", by walk_at "at", ?_⟩
  | refine ⟨_, _, _, _, rfl, rfl, by walk_at "hp", by walk_at "ix", ?_⟩
  | refine ⟨_, _, _, _, rfl, rfl, by walk_at "hp", by walk_at "hp", by walk_at "len", ?_⟩
  | refine ⟨_, _, _, rfl, rfl, by walk_at "len", by walk_at "at", ?_⟩
  | refine ⟨_, _, _, rfl, rfl, by walk_at "hp", by walk_at "len", ?_⟩
  | refine ⟨_, _, _, rfl, rfl, by walk_at "hp", by walk_at "at", ?_⟩
  | refine ⟨_, _, rfl, rfl, by walk_at "sq", ?_⟩
  | refine ⟨_, _, rfl, rfl, by walk_at "len", ?_⟩
  | refine ⟨_, _, rfl, by walk_at "sq", ?_⟩
  | refine ⟨_, _, rfl, .inl (by walk_at "sq"), ?_⟩
  | refine ⟨_, _, rfl, .inr (by walk_at "sq"), ?_⟩
  | refine ⟨_, _, rfl, by walk_at "sq", rfl, ?_⟩
  | refine ⟨_, fun _ _ h => h, ?_⟩
  | refine .inl ⟨_, rfl, ?_⟩
  | refine ⟨_, _, .type "int", .type _, true, rfl, ClsV.ty _, .base (.int _), kit_ty (by decide +kernel), ?_⟩
  | refine ⟨_, _, .type "int", .type _, false, rfl, ClsV.ty _, .base (.int _), kit_ty (by decide +kernel), ?_⟩
  | refine ⟨_, _, .type "bool", .type _, true, rfl, ClsV.ty _, .base (.bl _), kit_ty (by decide +kernel), ?_⟩
  | refine ⟨_, _, .type "bool", .type _, false, rfl, ClsV.ty _, .base (.bl _), kit_ty (by decide +kernel), ?_⟩
  | refine ⟨_, _, .type "str", .type _, true, rfl, ClsV.ty _, .base (.str _), kit_ty (by decide +kernel), ?_⟩
  | refine ⟨_, _, .type "str", .type _, false, rfl, ClsV.ty _, .base (.str _), kit_ty (by decide +kernel), ?_⟩
  | refine ⟨_, _, .type "NoneType", .type _, true, rfl, ClsV.ty _, .base (.non), kit_ty (by decide +kernel), ?_⟩
  | refine ⟨_, _, .type "NoneType", .type _, false, rfl, ClsV.ty _, .base (.non), kit_ty (by decide +kernel), ?_⟩
  | refine ⟨_, _, .type "list", .type _, true, rfl, ClsV.ty _, .base (.lst (by walk_at "hp")), kit_ty (by decide +kernel), ?_⟩
  | refine ⟨_, _, .type "list", .type _, false, rfl, ClsV.ty _, .base (.lst (by walk_at "hp")), kit_ty (by decide +kernel), ?_⟩
  | refine ⟨_, _, .type "tuple", .type _, true, rfl, ClsV.ty _, .base (.tup (by walk_at "hp")), kit_ty (by decide +kernel), ?_⟩
  | refine ⟨_, _, .type "tuple", .type _, false, rfl, ClsV.ty _, .base (.tup (by walk_at "hp")), kit_ty (by decide +kernel), ?_⟩
  | fail)
local macro_rules | `(tactic| walk_at "s1") => `(tactic| first
  | (with_reducible refine go_gcons ?_)
  | (with_reducible refine go_gnil ?_)
  | (with_reducible refine go_seqM ?_)
  | (with_reducible refine go_nextM ?_)
  | (with_reducible refine go_contM ?_)
  | (with_reducible refine go_brkM ?_)
  | (with_reducible refine go_retM ?_)
  | (with_reducible refine go_asgM ?_)
  | (with_reducible refine go_test ?_)
  | (with_reducible refine go_rI0 ?_)
  | (with_reducible refine go_op ?_)
  | (with_reducible refine go_var rfl ?_)
  | ((with_reducible show tFor (iRng1 _) _ _ _ _ _); refine (show iRng1 _ _ _ _ from ?_))
  | (with_reducible refine go_rng1 ?_)
  | (with_reducible refine go_c ?_)
  | (with_reducible apply go_pick; (case hs => walk_at "hp"); (case h0 => walk_at "cond"); (case h1 => walk_at "cond"); (case' q => intro k a b c h0 h1))
  | (with_reducible refine go_nil ?_)
  | (with_reducible refine go_cons ?_)
  | (with_reducible refine go_call ?_)
  | (with_reducible refine go_cb ?_)
  | (with_reducible refine go_next ?_)
  | (with_reducible refine go_cont ?_)
  | (with_reducible refine go_ret ?_)
  | (with_reducible refine go_name ?_)
  | (with_reducible refine go_seq ?_)
  | (with_reducible refine go_asg ?_)
  | (with_reducible apply go_or; (case h => walk_at "v"))
  | (with_reducible apply go_and; (case h => walk_at "v"))
  | (with_reducible apply go_andL; (case h => walk_at "v"); (case' h1 => intro e); (case' h2 => intro e))
  | (with_reducible apply go_orL; (case h => walk_at "v"); (case' h1 => intro e); (case' h2 => intro e))
  | (with_reducible apply go_ifE; (case h => walk_at "v"))
  | (with_reducible apply go_ifOr; (case h => walk_at "w"); (case' h1 => intro e); (case' h2 => intro e))
  | (with_reducible apply go_ifAnd; (case h => walk_at "w"); (case' h1 => intro e); (case' h2 => intro e))
  | (with_reducible refine go_min ?_)
  | (with_reducible refine iteT ?_)
  | (with_reducible refine iteF ?_)
  | (with_reducible refine iteD (fun _ => ?_) (fun e => absurd rfl e))
  | (with_reducible refine iteS (fun e => ?_) (fun e => ?_))
  | (with_reducible refine iteI (fun e => ?_) (fun e => ?_))
  | (with_reducible refine iteSn (fun e => ?_) (fun e => ?_))
  | (with_reducible refine iteIn (fun e => ?_) (fun e => ?_))
  | (with_reducible refine iteD (fun e => ?_) (fun e => ?_))
  | (with_reducible refine iteDn (fun e => ?_) (fun e => ?_))
  | (with_reducible refine ite2 (fun e => ?_) (fun e => ?_))
  | (refine fun (p : Addr) (hp : _ = none) => ?_)
  | ((conv => whnf); walk_at "s2")
  | fail)
local macro_rules | `(tactic| walk_at "s") => `(tactic| repeat' (first
  | (with_reducible refine go_gcons ?_)
  | (with_reducible refine go_gnil ?_)
  | (with_reducible refine go_seqM ?_)
  | (with_reducible refine go_nextM ?_)
  | (with_reducible refine go_contM ?_)
  | (with_reducible refine go_brkM ?_)
  | (with_reducible refine go_retM ?_)
  | (with_reducible refine go_asgM ?_)
  | (with_reducible refine go_test ?_)
  | (with_reducible refine go_rI0 ?_)
  | (with_reducible refine go_op ?_)
  | (with_reducible refine go_var rfl ?_)
  | ((with_reducible show tFor (iRng1 _) _ _ _ _ _); refine (show iRng1 _ _ _ _ from ?_))
  | (with_reducible refine go_rng1 ?_)
  | (with_reducible refine go_c ?_)
  | (with_reducible apply go_pick; (case hs => walk_at "hp"); (case h0 => walk_at "cond"); (case h1 => walk_at "cond"); (case' q => intro k a b c h0 h1))
  | (with_reducible refine go_nil ?_)
  | (with_reducible refine go_cons ?_)
  | (with_reducible refine go_call ?_)
  | (with_reducible refine go_cb ?_)
  | (with_reducible refine go_next ?_)
  | (with_reducible refine go_cont ?_)
  | (with_reducible refine go_ret ?_)
  | (with_reducible refine go_name ?_)
  | (with_reducible refine go_seq ?_)
  | (with_reducible refine go_asg ?_)
  | (with_reducible apply go_or; (case h => walk_at "v"))
  | (with_reducible apply go_and; (case h => walk_at "v"))
  | (with_reducible apply go_andL; (case h => walk_at "v"); (case' h1 => intro e); (case' h2 => intro e))
  | (with_reducible apply go_orL; (case h => walk_at "v"); (case' h1 => intro e); (case' h2 => intro e))
  | (with_reducible apply go_ifE; (case h => walk_at "v"))
  | (with_reducible apply go_ifOr; (case h => walk_at "w"); (case' h1 => intro e); (case' h2 => intro e))
  | (with_reducible apply go_ifAnd; (case h => walk_at "w"); (case' h1 => intro e); (case' h2 => intro e))
  | (with_reducible refine go_min ?_)
  | (with_reducible refine iteT ?_)
  | (with_reducible refine iteF ?_)
  | (with_reducible refine iteD (fun _ => ?_) (fun e => absurd rfl e))
  | (with_reducible refine iteS (fun e => ?_) (fun e => ?_))
  | (with_reducible refine iteI (fun e => ?_) (fun e => ?_))
  | (with_reducible refine iteSn (fun e => ?_) (fun e => ?_))
  | (with_reducible refine iteIn (fun e => ?_) (fun e => ?_))
  | (with_reducible refine iteD (fun e => ?_) (fun e => ?_))
  | (with_reducible refine iteDn (fun e => ?_) (fun e => ?_))
  | (with_reducible refine ite2 (fun e => ?_) (fun e => ?_))
  | (refine fun (p : Addr) (hp : _ = none) => ?_)
  | ((conv => whnf); walk_at "s2")
  | fail))

section
variable {P : Program} {w : World} {K : PySem.W.Frag} {mg : Str → Option Value} {base : Heap}
theorem nodup_at {α : Type} {l : List α} (nd : l.Nodup) {i j : Nat} {a : α} (h1 : l[i]? = some a) (h2 : l[j]? = some a) : i = j := by
  obtain ⟨i1, e1⟩ := List.getElem?_eq_some_iff.mp h1
  obtain ⟨j1, e2⟩ := List.getElem?_eq_some_iff.mp h2
  rcases Nat.lt_trichotomy i j with k | k | k
  · exact absurd (e1.trans e2.symm) (List.pairwise_iff_getElem.mp nd i j i1 j1 k)
  · exact k
  · exact absurd (e2.trans e1.symm) (List.pairwise_iff_getElem.mp nd j i j1 i1 k)
/-! ### lines at the points -/
def ArcsOk (as : List Ar) (N : Nat) : Prop := as.length ≤ 3000 ∧ ∀ i, i < as.length → (ar as i).lo < N ∧ (ar as i).hi < N ∧ (ar as i).lo ≠ (ar as i).hi
def spLinesAt : Sp := fun vs H Q _ => ∃ (N : Nat) (A : Addr) (as : List Ar), vs = [.int N, .ref A] ∧ ArcsAt H A as ∧ N ≤ 1000 ∧ ArcsOk as N ∧ ∀ L H', Same H H' → H L = none → LinesAt H' L as N → Q (.ref L) H'
theorem ok_lines_at (T : Top w K mg) : FnOk P w K mg base CX0 1 T.a_lines_at T.d_lines_at ["points", "arcs"] spLinesAt := by
  refine T.F_lines_at.ok sc_lines_at (fun vs H Q E h => ?_) (fun cdv A outer s H vs Q E hr h => ?_)
  · obtain ⟨N, A, as, rfl, _⟩ := h
    rfl
  · obtain ⟨N, A, as, rfl, ⟨xs, hA, hE⟩, hN, ⟨hlen, hok⟩, q⟩ := h
    have hxl := hE.len
    refine ⟨_, (pss_cons (ps_setLc (i := 2) (own := [("point", 6)]) rfl sc_lines_at.nd rfl rfl (sw_true rfl rfl rfl (by decide +kernel)) (pi_range1 rfl T.m_range (pa_cons (pv 0) pa_nil)) (blkOk_by (own := [("point", 6)]) (N := ["points", "arcs", "lines", "arc", "low", "high", "point"]) (sc := defScope s_lines_at) (by decide +kernel)) (fun _ _ _ _ _ => (pg_name (i := 6) sc_lines_at.nd rfl (.inl rfl))) (fun _ _ _ _ _ => pts_nil) (fun _ _ _ _ _ => (pe_lst pa_nil)))
    (pss_cons (ps_for PassesOwn.never rfl (pi_range1 rfl T.m_range (pa_cons (pe_callB call_len_seq (by rfl) T.m_len (by decide +kernel) (pa_cons (pv 1) pa_nil)) pa_nil)) (pg_name (i := 3) sc_lines_at.nd rfl (.inl rfl))
    (pss_cons (ps_set (i := 4) sc_lines_at.nd rfl (.inl rfl) (pe_ix ix_tup (pe_ix ix_list (pv 1) (pv 3) (fun _ _ => rfl)) pe_int (fun _ _ => rfl)))
    (pss_cons (ps_set (i := 5) sc_lines_at.nd rfl (.inl rfl) (pe_ix ix_tup (pe_ix ix_list (pv 1) (pv 3) (fun _ _ => rfl)) pe_int (fun _ _ => rfl)))
    (pss_cons (ps_expr (pe_bm PySem.F.plainAttrs_list PySem.F.slot_list_append PySem.F.type_list_append mt_append (pe_ix ix_list (pv 2) (pv 4) (fun _ _ => rfl)) (pa_cons (pe_tup (pa_cons (pv 3) (pa_cons (pv 5) (pa_cons pe_bl pa_nil)))) pa_nil)))
    (pss_one (ps_expr (pe_bm PySem.F.plainAttrs_list PySem.F.slot_list_append PySem.F.type_list_append mt_append (pe_ix ix_list (pv 2) (pv 5) (fun _ _ => rfl)) (pa_cons (pe_tup (pa_cons (pv 3) (pa_cons (pv 4) (pa_cons pe_bl pa_nil)))) pa_nil))))))))
    (pss_one (ps_ret (pv 2))))), ?_⟩
    walk_at "s"
    rename_i L hL
    refine lc_range (lo := 0) (n := ((N : Int)).toNat) (fun j H2 => Same H H2 ∧ ∃ ls : List Addr, H2 L = some (.lst (ls.map V.ref)) ∧ ls.length = j ∧ ls.Nodup ∧ ∀ a ∈ ls, H a = none ∧ a ≠ L ∧ H2 a = some (.lst [])) ?_ ?_ ?_
    · exact ⟨same_new hL, [], upd_same, rfl, List.nodup_nil, by simp⟩
    · intro j H2 hj hP
      obtain ⟨sm, ls, h1, h2, h3, h4⟩ := hP
      walk_at "s"
      rename_i p hp
      have nLp : L ≠ p := ne_of_none h1 hp
      refine ⟨_, hp_new h1 hp, sz_less (by rw [List.length_map]; omega), same_mut (sm.trans (same_new hp)) hL, ls ++ [p], ?_, by rw [List.length_append, h2]; rfl, ?_, fun a ha => ?_⟩
      · rw [upd_same, List.map_append]
        rfl
      · rw [List.nodup_append]
        refine ⟨h3, by simp, fun a ha b hb e => ?_⟩
        rw [List.mem_singleton] at hb
        have := (h4 a ha).2.2
        rw [e, hb, hp] at this
        cases this
      · rcases List.mem_append.mp ha with ha | ha
        · obtain ⟨k1, k2, k3⟩ := h4 a ha
          exact ⟨k1, k2, (upd_ne k2).trans (hp_new k3 hp)⟩
        · rw [List.mem_singleton] at ha
          subst ha
          exact ⟨sm.free hp, nLp.symm, (upd_ne nLp.symm).trans upd_same⟩
    · intro H2 hP
      obtain ⟨sm, ls, h1, h2, h3, h4⟩ := hP
      rw [Int.toNat_natCast] at h2
      have hA2 := sm _ _ hA
      walk_at "s"
      refine for_rangeQ (lo := 0) (n := ((xs.length : Int)).toNat) Q rfl (fun i σ H3 => ∃ (v3 v4 v5 : Option V), σ = [some (.int N), some (.ref A), some (.ref L), v3, v4, v5, none] ∧ Same H H3 ∧ Ts H2 H3 ∧ H3 L = some (.lst (ls.map V.ref)) ∧ LinesN H3 ls as i) ?_ ?_ ?_
      · exact ⟨_, _, _, rfl, sm, Ts.refl _, h1, h3, fun p a e => ⟨[], (h4 a (List.mem_of_getElem? e)).2.2, .nil⟩⟩
      · intro M X i σ H3 hi hP hM
        obtain ⟨v3, v4, v5, rfl, sm3, ts3, hL3, nd, hl⟩ := hP
        have hil : i < as.length := by omega
        obtain ⟨o1, o2, o3⟩ := hok i hil
        have hA3 := sm3 _ _ hA
        obtain ⟨t, hat, ht⟩ := arc_at hE hil
        have ht3 := sm3 _ _ ht
        have el : ls[(ar as i).lo]? = some (ls[(ar as i).lo]'(by omega)) := List.getElem?_eq_getElem (by omega)
        have eh : ls[(ar as i).hi]? = some (ls[(ar as i).hi]'(by omega)) := List.getElem?_eq_getElem (by omega)
        have na : ls[(ar as i).lo]'(by omega) ≠ ls[(ar as i).hi]'(by omega) := fun e => o3 (nodup_at nd el (by rw [eh, e]))
        generalize ls[(ar as i).lo]'(by omega) = a1 at el na
        generalize ls[(ar as i).hi]'(by omega) = a2 at eh na
        obtain ⟨es1, k1, k2⟩ := hl _ _ el
        obtain ⟨es2, m1, m2⟩ := hl _ _ eh
        have at1 : atI (ls.map V.ref) ((ar as i).lo : Int) = some (.ref a1) := atI_nat (by rw [List.getElem?_map, el]; rfl)
        have at2 : atI (ls.map V.ref) ((ar as i).hi : Int) = some (.ref a2) := atI_nat (by rw [List.getElem?_map, eh]; rfl)
        have f1 := h4 _ (List.mem_of_getElem? el)
        have f2 := h4 _ (List.mem_of_getElem? eh)
        have z1 : es1.length < sizeLine := sz_less (by
          have := lineN_len (as := as) (p := (ar as i).lo) i
          rw [k2.len]
          omega)
        have z2 : es2.length < sizeLine := sz_less (by
          have := lineN_len (as := as) (p := (ar as i).hi) i
          rw [m2.len]
          omega)
        have nL1 := f1.2.1
        have nL2 := f2.2.1
        simp only [Int.zero_add]
        walk_at "s"
        rename_i p1 hp1 p2 hp2
        have s1 : Same H3 (upd H3 p1 (.tup [.int i, .int (ar as i).hi, .bl true])) := same_new hp1
        have k1' := s1 _ _ k1
        have na1 : a1 ≠ p1 := ne_of_none k1 hp1
        have na2 : a2 ≠ p1 := ne_of_none m1 hp1
        have nLa1 : L ≠ p1 := ne_of_none hL3 hp1
        have t1 : Ts H3 (upd (upd H3 p1 (.tup [.int i, .int (ar as i).hi, .bl true])) a1 (.lst (es1 ++ [.ref p1]))) := (Ts.of s1).trans (Ts.upd k1')
        have g1 : upd (upd H3 p1 (.tup [.int i, .int (ar as i).hi, .bl true])) a1 (.lst (es1 ++ [.ref p1])) p1 = some (.tup [.int i, .int (ar as i).hi, .bl true]) := (upd_ne na1.symm).trans upd_same
        have g2 : upd (upd H3 p1 (.tup [.int i, .int (ar as i).hi, .bl true])) a1 (.lst (es1 ++ [.ref p1])) a1 = some (.lst (es1 ++ [.ref p1])) := upd_same
        have g3 : upd (upd H3 p1 (.tup [.int i, .int (ar as i).hi, .bl true])) a1 (.lst (es1 ++ [.ref p1])) a2 = some (.lst es2) := (upd_ne na.symm).trans (s1 _ _ m1)
        have gL : upd (upd H3 p1 (.tup [.int i, .int (ar as i).hi, .bl true])) a1 (.lst (es1 ++ [.ref p1])) L = some (.lst (ls.map V.ref)) := (upd_ne nL1.symm).trans (s1 _ _ hL3)
        have go : ∀ b o, b ≠ a1 → H3 b = some o → upd (upd H3 p1 (.tup [.int i, .int (ar as i).hi, .bl true])) a1 (.lst (es1 ++ [.ref p1])) b = some o := fun b o nb hb => (upd_ne nb).trans (s1 _ _ hb)
        have gs : Same H (upd (upd H3 p1 (.tup [.int i, .int (ar as i).hi, .bl true])) a1 (.lst (es1 ++ [.ref p1]))) := same_mut (sm3.trans s1) f1.1
        generalize upd (upd H3 p1 (.tup [.int i, .int (ar as i).hi, .bl true])) a1 (.lst (es1 ++ [.ref p1])) = H4 at hp2 t1 g1 g2 g3 gL go gs ⊢
        have s2 : Same H4 (upd H4 p2 (.tup [.int i, .int (ar as i).lo, .bl false])) := same_new hp2
        have n2 : a2 ≠ p2 := ne_of_none g3 hp2
        have t2 : Ts H4 (upd (upd H4 p2 (.tup [.int i, .int (ar as i).lo, .bl false])) a2 (.lst (es2 ++ [.ref p2]))) := (Ts.of s2).trans (Ts.upd (s2 _ _ g3))
        have r1 : upd (upd H4 p2 (.tup [.int i, .int (ar as i).lo, .bl false])) a2 (.lst (es2 ++ [.ref p2])) p2 = some (.tup [.int i, .int (ar as i).lo, .bl false]) := (upd_ne n2.symm).trans upd_same
        refine hM _ _ ⟨_, _, _, rfl, same_mut (gs.trans s2) f2.1, ts3.trans (t1.trans t2), (upd_ne nL2.symm).trans (s2 _ _ gL), nd, fun p a e => ?_⟩
        by_cases e1 : a = a1
        · subst e1
          have ep := nodup_at nd e el
          subst ep
          refine ⟨es1 ++ [.ref p1], (upd_ne na).trans (s2 _ _ g2), ?_⟩
          show Each _ _ (lineN as (ar as i).lo i ++ (if (ar as i).lo = (ar as i).lo then [(i, (ar as i).hi, true)] else []) ++ (if (ar as i).hi = (ar as i).lo then [(i, (ar as i).lo, false)] else []))
          rw [if_pos rfl, if_neg (Ne.symm o3), List.append_nil]
          exact (k2.mono fun _ _ => LineV.ts (t1.trans t2)).snoc ⟨p1, rfl, t2 _ _ g1⟩
        · by_cases e2 : a = a2
          · subst e2
            have ep := nodup_at nd e eh
            subst ep
            refine ⟨es2 ++ [.ref p2], upd_same, ?_⟩
            show Each _ _ (lineN as (ar as i).hi i ++ (if (ar as i).lo = (ar as i).hi then [(i, (ar as i).hi, true)] else []) ++ (if (ar as i).hi = (ar as i).hi then [(i, (ar as i).lo, false)] else []))
            rw [if_neg o3, if_pos rfl, List.append_nil]
            exact (m2.mono fun _ _ => LineV.ts (t1.trans t2)).snoc ⟨p2, rfl, r1⟩
          · obtain ⟨es, q1, q2⟩ := hl p a e
            refine ⟨es, (upd_ne e2).trans (s2 _ _ (go _ _ e1 q1)), ?_⟩
            have x1 : (ar as i).lo ≠ p := fun z => e1 (by rw [z] at el; rw [el] at e; exact (Option.some.inj e).symm)
            have x2 : (ar as i).hi ≠ p := fun z => e2 (by rw [z] at eh; rw [eh] at e; exact (Option.some.inj e).symm)
            show Each _ _ (lineN as p i ++ (if (ar as i).lo = p then [(i, (ar as i).hi, true)] else []) ++ (if (ar as i).hi = p then [(i, (ar as i).lo, false)] else []))
            rw [if_neg x1, if_neg x2, List.append_nil, List.append_nil]
            exact q2.mono fun _ _ => LineV.ts (t1.trans t2)
      · intro σ H3 hP
        obtain ⟨v3, v4, v5, rfl, sm3, ts3, hL3, hl⟩ := hP
        rw [show ((xs.length : Int)).toNat = as.length from by omega] at hl
        walk_at "s"
        exact q L H3 sm3 hL ⟨ls, hL3, h2, hl⟩
/-! ### whether a step passes, and its room -/
def spPasses : Sp := fun vs H Q _ => ∃ (A B : Addr) (as : List Ar) (fs : List Int) (i : Nat) (fw : Bool), vs = [.ref A, .ref B, .int i, .bl fw] ∧ ArcsAt H A as ∧ H B = some (.lst (fs.map V.int)) ∧ fs.length = as.length ∧ i < as.length ∧ Q (.bl (decide (pass as (fn fs) i fw))) H
theorem ok_passes (T : Top w K mg) : FnOk P w K mg base CX0 1 T.a_passes T.d_passes ["arcs", "amounts", "arc", "forward"] spPasses := by
  refine T.F_passes.ok sc_passes (fun vs H Q E h => ?_) (fun cdv A outer s H vs Q E hr h => ?_)
  · obtain ⟨A, B, as, fs, i, fw, rfl, _⟩ := h
    rfl
  · obtain ⟨A, B, as, fs, i, fw, rfl, ⟨xs, hA, hE⟩, hB, hl, hi, q⟩ := h
    obtain ⟨t, hat, ht⟩ := arc_at hE hi
    have hfa := fn_at (fs := fs) (i := i) (by omega)
    refine ⟨_, (pss_cons (ps_if (pt_not (pt_val (pv 3)))
    (pss_one (ps_ret (pe_cmpR op_gt (pe_ix ix_list (pv 1) (pv 2) (fun _ _ => rfl)) pe_int (nomark _))))
    pss_nil)
    (pss_one (ps_ret (pe_or (pe_cmpR op_isN (pe_ix ix_tup (pe_ix ix_list (pv 0) (pv 2) (fun _ _ => rfl)) pe_int (fun _ _ => rfl)) pe_non (nomark _)) (pe_one (pe_cmpR op_lt (pe_ix ix_list (pv 1) (pv 2) (fun _ _ => rfl)) (pe_ix ix_tup (pe_ix ix_list (pv 0) (pv 2) (fun _ _ => rfl)) pe_int (fun _ _ => rfl)) (nomark _))))))), ?_⟩
    cases fw with
    | false =>
      have e1 : decide (pass as (fn fs) i false) = decide (0 < fn fs i) := decide_eq_decide.mpr (by unfold pass; rw [if_neg (by decide)])
      rw [e1] at q
      walk_at "s"
      all_goals first
        | exact q
        | exact absurd rfl ‹¬ (!false) = true›
        | exact absurd ‹(!true) = true› (by decide)
        | exact absurd ‹V.int _ = V.non› (fun z => by cases z)
    | true =>
      cases hc : (ar as i).cap with
      | none =>
        rw [hc] at ht
        have ht : H t = some (.tup [.int (ar as i).lo, .int (ar as i).hi, .non]) := ht
        have e1 : decide (pass as (fn fs) i true) = true := decide_eq_true (by unfold pass; rw [if_pos rfl, hc]; intro c z; cases z)
        rw [e1] at q
        walk_at "s"
        all_goals first
          | exact q
          | exact absurd rfl ‹¬ (!false) = true›
          | exact absurd ‹(!true) = true› (by decide)
          | exact absurd ‹V.int _ = V.non› (fun z => by cases z)
      | some c =>
        rw [hc] at ht
        have ht : H t = some (.tup [.int (ar as i).lo, .int (ar as i).hi, .int c]) := ht
        have e1 : decide (pass as (fn fs) i true) = decide (fn fs i < c) := decide_eq_decide.mpr (by unfold pass; rw [if_pos rfl, hc]; exact ⟨fun k => k c rfl, fun k c' z => by cases z; exact k⟩)
        rw [e1] at q
        walk_at "s"
        all_goals first
          | exact q
          | exact absurd rfl ‹¬ (!false) = true›
          | exact absurd ‹(!true) = true› (by decide)
          | exact absurd ‹V.int _ = V.non› (fun z => by cases z)
def spRoom : Sp := fun vs H Q _ => ∃ (A B : Addr) (as : List Ar) (fs : List Int) (i : Nat) (fw : Bool), vs = [.ref A, .ref B, .int i, .bl fw] ∧ ArcsAt H A as ∧ H B = some (.lst (fs.map V.int)) ∧ fs.length = as.length ∧ i < as.length ∧ Q (roomV as (fn fs) i fw) H
theorem ok_room (T : Top w K mg) : FnOk P w K mg base CX0 1 T.a_room_left T.d_room_left ["arcs", "amounts", "arc", "forward"] spRoom := by
  refine T.F_room_left.ok sc_room_left (fun vs H Q E h => ?_) (fun cdv A outer s H vs Q E hr h => ?_)
  · obtain ⟨A, B, as, fs, i, fw, rfl, _⟩ := h
    rfl
  · obtain ⟨A, B, as, fs, i, fw, rfl, ⟨xs, hA, hE⟩, hB, hl, hi, q⟩ := h
    obtain ⟨t, hat, ht⟩ := arc_at hE hi
    have hfa := fn_at (fs := fs) (i := i) (by omega)
    refine ⟨_, (pss_cons (ps_if (pt_not (pt_val (pv 3)))
    (pss_one (ps_ret (pe_ix ix_list (pv 1) (pv 2) (fun _ _ => rfl))))
    pss_nil)
    (pss_cons (ps_if (pt_cmpR op_isN (pe_ix ix_tup (pe_ix ix_list (pv 0) (pv 2) (fun _ _ => rfl)) pe_int (fun _ _ => rfl)) pe_non (nomark _))
    (pss_one (ps_ret pe_non))
    pss_nil)
    (pss_one (ps_ret (pe_op op_sub (pe_ix ix_tup (pe_ix ix_list (pv 0) (pv 2) (fun _ _ => rfl)) pe_int (fun _ _ => rfl)) (pe_ix ix_list (pv 1) (pv 2) (fun _ _ => rfl))))))), ?_⟩
    unfold roomV at q
    cases fw with
    | false =>
      rw [if_neg (by decide)] at q
      walk_at "s"
      all_goals first
        | exact q
        | exact absurd rfl ‹¬ (!false) = true›
        | exact absurd ‹(!true) = true› (by decide)
        | exact absurd ‹V.int _ = V.non› (fun z => by cases z)
    | true =>
      rw [if_pos rfl] at q
      cases hc : (ar as i).cap with
      | none =>
        rw [hc] at ht q
        have ht : H t = some (.tup [.int (ar as i).lo, .int (ar as i).hi, .non]) := ht
        walk_at "s"
        all_goals first
          | exact q
          | exact absurd rfl ‹¬ (!false) = true›
          | exact absurd ‹(!true) = true› (by decide)
          | exact absurd ‹V.int _ = V.non› (fun z => by cases z)
      | some c =>
        rw [hc] at ht q
        have ht : H t = some (.tup [.int (ar as i).lo, .int (ar as i).hi, .int c]) := ht
        walk_at "s"
        all_goals first
          | exact q
          | exact absurd rfl ‹¬ (!false) = true›
          | exact absurd ‹(!true) = true› (by decide)
          | exact absurd ‹V.int _ = V.non› (fun z => by cases z)
end
end K15W
set_option Elab.async false
set_option linter.all false
set_option maxRecDepth 100000
set_option maxHeartbeats 4000000
namespace K15W
open PySem PySem.Spec PyProof.Rows L2 TL LW NT FL NF
local macro_rules | `(tactic| walk_at "ne") => `(tactic| first
  | (with_reducible assumption)
  | exact Ne.symm (by assumption)
  | (with_reducible exact ne_of_none (by assumption) (by assumption))
  | (with_reducible exact (ne_of_none (by assumption) (by assumption)).symm)
  | (apply ne_of_none; (case h' => assumption); (case h => walk_at "hp"))
  | (apply Ne.symm; apply ne_of_none; (case h' => assumption); (case h => walk_at "hp")))
local macro_rules | `(tactic| walk_at "hp") => `(tactic| first
  | (with_reducible assumption)
  | exact upd_same
  | (with_reducible exact hp_new (by assumption) (by assumption))
  | (apply hp_new; (case n => assumption); (case h => walk_at "hp"))
  | (refine (upd_ne ?ne).trans ?hp; (case ne => walk_at "ne"); (case hp => walk_at "hp")))
local macro_rules | `(tactic| walk_at "sq") => `(tactic| first
  | ((with_reducible show SqL _ _ _ _); assumption)
  | ((with_reducible show SqT _ _ _ _); assumption)
  | exact SqL.of (by assumption)
  | exact SqL.of upd_same
  | exact SqT.of (by assumption)
  | exact SqT.of upd_same
  | (apply SqL.of; walk_at "hp")
  | (apply SqT.of; walk_at "hp"))
local macro_rules | `(tactic| walk_at "len") => `(tactic| first
  | (with_reducible assumption)
  | exact sz_small (by omega)
  | exact sz_less (by omega)
  | decide
  | (refine sz_small ?_; simp only [List.length_append, List.length_cons, List.length_nil, List.length_map, str_len]; omega)
  | (refine sz_less ?_; simp only [List.length_append, List.length_cons, List.length_nil, List.length_map, str_len]; omega))
local macro_rules | `(tactic| walk_at "cond") => `(tactic| first
  | omega
  | (split <;> omega)
  | (with_reducible assumption)
  | exact .inl ⟨by omega, by omega⟩
  | exact .inr ⟨by omega, by omega⟩
  | exact ⟨by omega, by omega⟩
  | (show (0 : Int) < _; omega)
  | (show (0 : Int) < _; decide +kernel)
  | exact ⟨by omega, by omega, by decide⟩
  | walk_at "len"
  | rfl
  | (show CMulW _ _; unfold CMulW; decide +kernel)
  | exact ⟨_, rfl⟩
  | decide +kernel
  | exact ⟨_, by walk_at "sq"⟩
  | exact .inl ⟨rfl, _, by walk_at "sq"⟩)
local macro_rules | `(tactic| walk_at "at") => `(tactic| first
  | (with_reducible assumption)
  | exact atI_nat (by assumption)
  | exact atI_last _ _
  | exact atI_nat (j := 0) rfl
  | exact atI_nat (j := 1) rfl
  | exact atI_nat (j := 2) rfl
  | exact atI_nat (j := 3) rfl
  | exact atI_nat (j := 4) rfl)
local macro_rules | `(tactic| walk_at "ix") => `(tactic| first
  | (with_reducible assumption)
  | (with_reducible exact ixN_0 (by simp; done))
  | (with_reducible exact ixN_1 (by simp; done))
  | (with_reducible exact ixN_2 (by simp; done))
  | (with_reducible exact Evl.ixN_nat (by assumption))
  | (with_reducible exact Evl.ixN_nat (by omega)))
local macro_rules | `(tactic| walk_at "v") => `(tactic| first
  | exact val_var rfl
  | (with_reducible exact val_c)
  | (with_reducible apply val_orV; (case ha => walk_at "v"); (case hb => walk_at "v"))
  | (with_reducible apply val_andV; (case ha => walk_at "v"); (case hb => walk_at "v"))
  | (with_reducible apply val_notV; walk_at "v")
  | (with_reducible apply val_ifS; (case h => walk_at "w"); (case ha => walk_at "v"); (case hb => walk_at "v"))
  | (with_reducible apply val_ifI; (case h => walk_at "w"); (case ha => walk_at "v"); (case hb => walk_at "v"))
  | (with_reducible apply val_ifB; (case h => walk_at "w"); (case ha => walk_at "v"); (case hb => walk_at "v"))
  | (with_reducible apply val_eqS; (case ha => walk_at "v"); (case hb => walk_at "v"))
  | (with_reducible apply val_eqI; (case ha => walk_at "v"); (case hb => walk_at "v"))
  | (with_reducible apply val_neS; (case ha => walk_at "v"); (case hb => walk_at "v"))
  | (with_reducible apply val_neI; (case ha => walk_at "v"); (case hb => walk_at "v"))
  | (with_reducible apply val_op; (case ha => walk_at "v"); (case hb => walk_at "v"); (case hr => exact fun Q q => ⟨_, _, rfl, rfl, q⟩)))
local macro_rules | `(tactic| walk_at "w") => `(tactic| first
  | (with_reducible apply ans_or2; (case h1 => walk_at "w"); (case h2 => walk_at "w"))
  | (with_reducible apply ans_and2; (case h1 => walk_at "w"); (case h2 => walk_at "w"))
  | (with_reducible apply ans_not; walk_at "w")
  | (with_reducible apply ans_test; walk_at "v")
  | (with_reducible apply ans_val; walk_at "v"))
local macro_rules | `(tactic| walk_at "s2") => `(tactic| first
  | refine ⟨_, rfl, ?_⟩
  | refine ⟨_, _, rfl, rfl, ?_⟩
  | (refine And.intro ?cc ?_; (case cc => walk_at "cond"))
  | refine ⟨_, _, _, _, rfl, rfl, by walk_at "sq", by walk_at "at", ?_⟩
  | refine ⟨_, _, _, _, rfl, rfl, by walk_at "hp", by walk_at "ix", ?_⟩
  | refine ⟨_, _, _, _, rfl, rfl, by walk_at "hp", by walk_at "hp", by walk_at "len", ?_⟩
  | refine ⟨_, _, _, rfl, rfl, by walk_at "len", by walk_at "at", ?_⟩
  | refine ⟨_, _, _, rfl, rfl, by walk_at "hp", by walk_at "len", ?_⟩
  | refine ⟨_, _, _, rfl, rfl, by walk_at "hp", by walk_at "at", ?_⟩
  | refine ⟨_, _, rfl, rfl, by walk_at "sq", ?_⟩
  | refine ⟨_, _, rfl, rfl, by walk_at "len", ?_⟩
  | refine ⟨_, _, rfl, by walk_at "sq", ?_⟩
  | refine ⟨_, _, rfl, .inl (by walk_at "sq"), ?_⟩
  | refine ⟨_, _, rfl, .inr (by walk_at "sq"), ?_⟩
  | refine ⟨_, _, rfl, by walk_at "sq", rfl, ?_⟩
  | refine ⟨_, fun _ _ h => h, ?_⟩
  | refine .inl ⟨_, rfl, ?_⟩
  | refine ⟨_, _, .type "int", .type _, true, rfl, ClsV.ty _, .base (.int _), kit_ty (by decide +kernel), ?_⟩
  | refine ⟨_, _, .type "int", .type _, false, rfl, ClsV.ty _, .base (.int _), kit_ty (by decide +kernel), ?_⟩
  | refine ⟨_, _, .type "bool", .type _, true, rfl, ClsV.ty _, .base (.bl _), kit_ty (by decide +kernel), ?_⟩
  | refine ⟨_, _, .type "bool", .type _, false, rfl, ClsV.ty _, .base (.bl _), kit_ty (by decide +kernel), ?_⟩
  | refine ⟨_, _, .type "str", .type _, true, rfl, ClsV.ty _, .base (.str _), kit_ty (by decide +kernel), ?_⟩
  | refine ⟨_, _, .type "str", .type _, false, rfl, ClsV.ty _, .base (.str _), kit_ty (by decide +kernel), ?_⟩
  | refine ⟨_, _, .type "NoneType", .type _, true, rfl, ClsV.ty _, .base (.non), kit_ty (by decide +kernel), ?_⟩
  | refine ⟨_, _, .type "NoneType", .type _, false, rfl, ClsV.ty _, .base (.non), kit_ty (by decide +kernel), ?_⟩
  | refine ⟨_, _, .type "list", .type _, true, rfl, ClsV.ty _, .base (.lst (by walk_at "hp")), kit_ty (by decide +kernel), ?_⟩
  | refine ⟨_, _, .type "list", .type _, false, rfl, ClsV.ty _, .base (.lst (by walk_at "hp")), kit_ty (by decide +kernel), ?_⟩
  | refine ⟨_, _, .type "tuple", .type _, true, rfl, ClsV.ty _, .base (.tup (by walk_at "hp")), kit_ty (by decide +kernel), ?_⟩
  | refine ⟨_, _, .type "tuple", .type _, false, rfl, ClsV.ty _, .base (.tup (by walk_at "hp")), kit_ty (by decide +kernel), ?_⟩
  | fail)
local macro_rules | `(tactic| walk_at "s1") => `(tactic| first
  | (with_reducible refine go_gcons ?_)
  | (with_reducible refine go_gnil ?_)
  | (with_reducible refine go_seqM ?_)
  | (with_reducible refine go_nextM ?_)
  | (with_reducible refine go_contM ?_)
  | (with_reducible refine go_brkM ?_)
  | (with_reducible refine go_retM ?_)
  | (with_reducible refine go_asgM ?_)
  | (with_reducible refine go_test ?_)
  | (with_reducible refine go_rI0 ?_)
  | (with_reducible refine go_op ?_)
  | (with_reducible refine go_var rfl ?_)
  | ((with_reducible show tFor (iRng1 _) _ _ _ _ _); refine (show iRng1 _ _ _ _ from ?_))
  | (with_reducible refine go_rng1 ?_)
  | (with_reducible refine go_c ?_)
  | (with_reducible apply go_pick; (case hs => walk_at "hp"); (case h0 => walk_at "cond"); (case h1 => walk_at "cond"); (case' q => intro k a b c h0 h1))
  | (with_reducible refine go_nil ?_)
  | (with_reducible refine go_cons ?_)
  | (with_reducible refine go_call ?_)
  | (with_reducible refine go_cb ?_)
  | (with_reducible refine go_next ?_)
  | (with_reducible refine go_cont ?_)
  | (with_reducible refine go_ret ?_)
  | (with_reducible refine go_name ?_)
  | (with_reducible refine go_seq ?_)
  | (with_reducible refine go_asg ?_)
  | (with_reducible apply go_or; (case h => walk_at "v"))
  | (with_reducible apply go_and; (case h => walk_at "v"))
  | (with_reducible apply go_andL; (case h => walk_at "v"); (case' h1 => intro e); (case' h2 => intro e))
  | (with_reducible apply go_orL; (case h => walk_at "v"); (case' h1 => intro e); (case' h2 => intro e))
  | (with_reducible apply go_ifE; (case h => walk_at "v"))
  | (with_reducible apply go_ifOr; (case h => walk_at "w"); (case' h1 => intro e); (case' h2 => intro e))
  | (with_reducible apply go_ifAnd; (case h => walk_at "w"); (case' h1 => intro e); (case' h2 => intro e))
  | (with_reducible refine go_min ?_)
  | (with_reducible refine iteT ?_)
  | (with_reducible refine iteF ?_)
  | (with_reducible refine iteD (fun _ => ?_) (fun e => absurd rfl e))
  | (with_reducible refine iteS (fun e => ?_) (fun e => ?_))
  | (with_reducible refine iteI (fun e => ?_) (fun e => ?_))
  | (with_reducible refine iteSn (fun e => ?_) (fun e => ?_))
  | (with_reducible refine iteIn (fun e => ?_) (fun e => ?_))
  | (with_reducible refine iteD (fun e => ?_) (fun e => ?_))
  | (with_reducible refine iteDn (fun e => ?_) (fun e => ?_))
  | (with_reducible refine ite2 (fun e => ?_) (fun e => ?_))
  | (refine fun (p : Addr) (hp : _ = none) => ?_)
  | ((conv => whnf); walk_at "s2")
  | fail)
local macro_rules | `(tactic| walk_at "s") => `(tactic| repeat' (first
  | (with_reducible refine go_gcons ?_)
  | (with_reducible refine go_gnil ?_)
  | (with_reducible refine go_seqM ?_)
  | (with_reducible refine go_nextM ?_)
  | (with_reducible refine go_contM ?_)
  | (with_reducible refine go_brkM ?_)
  | (with_reducible refine go_retM ?_)
  | (with_reducible refine go_asgM ?_)
  | (with_reducible refine go_test ?_)
  | (with_reducible refine go_rI0 ?_)
  | (with_reducible refine go_op ?_)
  | (with_reducible refine go_var rfl ?_)
  | ((with_reducible show tFor (iRng1 _) _ _ _ _ _); refine (show iRng1 _ _ _ _ from ?_))
  | (with_reducible refine go_rng1 ?_)
  | (with_reducible refine go_c ?_)
  | (with_reducible apply go_pick; (case hs => walk_at "hp"); (case h0 => walk_at "cond"); (case h1 => walk_at "cond"); (case' q => intro k a b c h0 h1))
  | (with_reducible refine go_nil ?_)
  | (with_reducible refine go_cons ?_)
  | (with_reducible refine go_call ?_)
  | (with_reducible refine go_cb ?_)
  | (with_reducible refine go_next ?_)
  | (with_reducible refine go_cont ?_)
  | (with_reducible refine go_ret ?_)
  | (with_reducible refine go_name ?_)
  | (with_reducible refine go_seq ?_)
  | (with_reducible refine go_asg ?_)
  | (with_reducible apply go_or; (case h => walk_at "v"))
  | (with_reducible apply go_and; (case h => walk_at "v"))
  | (with_reducible apply go_andL; (case h => walk_at "v"); (case' h1 => intro e); (case' h2 => intro e))
  | (with_reducible apply go_orL; (case h => walk_at "v"); (case' h1 => intro e); (case' h2 => intro e))
  | (with_reducible apply go_ifE; (case h => walk_at "v"))
  | (with_reducible apply go_ifOr; (case h => walk_at "w"); (case' h1 => intro e); (case' h2 => intro e))
  | (with_reducible apply go_ifAnd; (case h => walk_at "w"); (case' h1 => intro e); (case' h2 => intro e))
  | (with_reducible refine go_min ?_)
  | (with_reducible refine iteT ?_)
  | (with_reducible refine iteF ?_)
  | (with_reducible refine iteD (fun _ => ?_) (fun e => absurd rfl e))
  | (with_reducible refine iteS (fun e => ?_) (fun e => ?_))
  | (with_reducible refine iteI (fun e => ?_) (fun e => ?_))
  | (with_reducible refine iteSn (fun e => ?_) (fun e => ?_))
  | (with_reducible refine iteIn (fun e => ?_) (fun e => ?_))
  | (with_reducible refine iteD (fun e => ?_) (fun e => ?_))
  | (with_reducible refine iteDn (fun e => ?_) (fun e => ?_))
  | (with_reducible refine ite2 (fun e => ?_) (fun e => ?_))
  | (refine fun (p : Addr) (hp : _ = none) => ?_)
  | ((conv => whnf); walk_at "s2")
  | fail))

section
variable {P : Program} {w : World} {K : PySem.W.Frag} {mg : Str → Option Value} {base : Heap}
/-! ### what is reached -/
def spReached : Sp := fun vs H Q _ => ∃ (L A B St : Addr) (as : List Ar) (fs : List Int) (S N : Nat), vs = [.ref L, .ref A, .ref B, .ref St, .bl false] ∧ LinesAt H L as N ∧ ArcsAt H A as ∧ H B = some (.lst (fs.map V.int)) ∧ fs.length = as.length ∧ H St = some (.lst [.int S]) ∧ S < N ∧ N ≤ 1000 ∧ ArcsOk as N ∧
  ∀ C H' kvs qs, Same H H' → H C = none → Came H' as (fn fs) S N C kvs qs → Q (.ref C) H'
theorem ok_reached (T : Top w K mg) : FnOk P w K mg base CX0 2 T.a_reached T.d_reached ["lines", "arcs", "amounts", "starts", "backward"] spReached := by
  have G_passes := ok_passes (P := P) (w := w) (base := base) T
  refine T.F_reached.ok sc_reached (fun vs H Q E h => ?_) (fun cdv A outer s H vs Q E hr h => ?_)
  · obtain ⟨L, A, B, St, as, fs, S, N, rfl, _⟩ := h
    rfl
  · obtain ⟨L, A, B, St, as, fs, S, N, rfl, hL, hA, hB, hfl, hSt, hSN, hN, ⟨hlen, hok⟩, q⟩ := h
    have hu := hu_of hr
    refine ⟨_, (pss_cons (ps_setDc (i := 6) (own := [("point", 5)]) rfl sc_reached.nd rfl rfl (sw_trueD rfl rfl rfl (by decide +kernel)) (pi_list (pv 3)) (blkOk_by (own := [("point", 5)]) (N := ["lines", "arcs", "amounts", "starts", "backward", "point", "came", "queue", "at", "arc", "other", "forward"]) (sc := defScope s_reached) (by decide +kernel)) (fun _ _ _ _ _ => (pg_name (i := 5) sc_reached.nd rfl (.inl rfl))) (fun _ _ _ _ _ => pts_nil) (fun _ _ _ _ _ => (pv 5)) (fun _ _ _ _ _ => pe_non))
    (pss_cons (ps_set (i := 7) sc_reached.nd rfl (.inl rfl) (pe_callTy (call_list_dK rfl) (by rfl) T.m_list (by decide +kernel) (pa_cons (pv 6) pa_nil)))
    (pss_cons (ps_set (i := 8) sc_reached.nd rfl (.inl rfl) pe_int)
    (pss_cons (ps_while PassesOwn.never (pt_cmpR op_lt (pv 8) (pe_callB call_len_seq (by rfl) T.m_len (by decide +kernel) (pa_cons (pv 7) pa_nil)) (nomark _))
    (pss_cons (ps_set (i := 5) sc_reached.nd rfl (.inl rfl) (pe_ix ix_list (pv 7) (pv 8) (fun _ _ => rfl)))
    (pss_cons (ps_aug (i := 8) sc_reached.nd rfl (.inl rfl) pe_int ip_add)
    (pss_one (ps_for PassesOwn.never rfl (pi_list (pe_ix ix_list (pv 0) (pv 5) (fun _ _ => rfl))) (pg_tup rfl (pgs_cons (pg_name (i := 9) sc_reached.nd rfl (.inl rfl)) (pgs_cons (pg_name (i := 10) sc_reached.nd rfl (.inl rfl)) (pgs_cons (pg_name (i := 11) sc_reached.nd rfl (.inl rfl)) pgs_nil))))
    (pss_one (ps_if (PW.pt (pw_and (pt_cmp (pc_dnotin hu (pv 10) (pv 6))) (pw_and1 (pt_val (pe_call G_passes (hr.mono (by omega)) (by rfl) T.m_passes T.F_passes.kp T.b_passes .nil pass0 (pa_cons (pv 1) (pa_cons (pv 2) (pa_cons (pv 9) (pa_cons (pe_cmpR op_ne (pv 11) (pv 4) (nomark _)) pa_nil)))))))))
    (pss_cons (ps_dput hu (pv 6) (pv 10) (pe_tup (pa_cons (pv 9) (pa_cons (pv 5) (pa_cons (pv 11) pa_nil)))) rfl)
    (pss_one (ps_expr (pe_bm PySem.F.plainAttrs_list PySem.F.slot_list_append PySem.F.type_list_append mt_append (pv 7) (pa_cons (pv 10) pa_nil)))))
    pss_nil)))))))
    (pss_one (ps_ret (pv 6))))))), ?_⟩
    walk_at "s"
    rename_i C hC
    refine dc_list (xs := [V.int (S : Int)]) (fun j H2 => Same H H2 ∧ H2 C = some (.dK (if j = 0 then [] else [(Sum.inl (S : Int), V.non)]))) ?_ ?_ ?_ ?_
    · exact ⟨same_new hC, upd_same⟩
    · intro j H2 hj hP
      exact SqL.of (hP.1 _ _ hSt)
    · intro j x H2 hj hP
      obtain ⟨sm, h1⟩ := hP
      have hj0 : j = 0 := by
        have := (List.getElem?_eq_some_iff.mp hj).1
        simp at this
        omega
      subst hj0
      have hx : x = V.int (S : Int) := by simpa using hj.symm
      subst hx
      rw [if_pos rfl] at h1
      walk_at "s"
      refine ⟨_, Sum.inl (S : Int), rfl, h1, sz_less (Nat.zero_le _), same_mut sm hC, ?_⟩
      rw [upd_same]
      rfl
    · intro H2 hP
      obtain ⟨sm, h1⟩ := hP
      have h1 : H2 C = some (.dK [(Sum.inl (S : Int), V.non)]) := h1
      walk_at "s"
      refine ⟨C, _, rfl, h1, fun U hU => ?_⟩
      have nCU : C ≠ U := ne_of_none h1 hU
      have hU0 : H U = none := sm.free hU
      have smU := sm.trans (same_new (o := .lst (List.map (fun kv => kV kv.1) [((Sum.inl (S : Int) : Key), V.non)])) hU)
      refine ⟨fun m σ H3 => ∃ (v5 v9 v10 v11 : Option V) (n : Nat) (qs : List Nat) (kvs : List (Key × V)), σ = [some (.ref L), some (.ref A), some (.ref B), some (.ref St), some (.bl false), v5, some (.ref C), some (.ref U), some (.int n), v9, v10, v11] ∧ m + n = N ∧ n ≤ qs.length ∧ Same H H3 ∧ H3 C = some (.dK kvs) ∧ H3 U = some (.lst (qs.map fun (p : Nat) => V.int (p : Int))) ∧ Srch H3 as (fn fs) S N qs kvs ∧ Shut as (fn fs) qs n, ⟨N, _, _, _, _, 0, [S], [(Sum.inl (S : Int), V.non)], rfl, rfl, Nat.zero_le _, smU, (upd_ne nCU).trans h1, upd_same, ⟨by simp, ?_, rfl, Nat.le_refl _, ?_, ?_⟩, fun j p hj => absurd hj (Nat.not_lt_zero _)⟩, fun m σ H3 hW => ?_⟩
      · intro p hp
        rw [List.mem_singleton] at hp
        rw [hp]
        exact hSN
      · intro p
        have e : kv [((Sum.inl (S : Int) : Key), V.non)] p = if p = S then some .non else none := by
          have := kv_put (kvs := []) (q := S) (p := p) (v := V.non)
          exact this
        rw [e, List.mem_singleton]
        by_cases z : p = S
        · rw [if_pos z]
          exact ⟨fun _ => z, fun _ => rfl⟩
        · rw [if_neg z]
          exact ⟨fun k => absurd k (by decide), fun k => absurd k z⟩
      · intro p v hp
        have e : kv [((Sum.inl (S : Int) : Key), V.non)] p = if p = S then some .non else none := by
          have := kv_put (kvs := []) (q := S) (p := p) (v := V.non)
          exact this
        rw [e] at hp
        by_cases z : p = S
        · rw [if_pos z] at hp
          exact .inl ⟨z, (Option.some.inj hp).symm⟩
        · rw [if_neg z] at hp
          cases hp
      · obtain ⟨v5, v9, v10, v11, n, qs, kvs, rfl, hm, hnq, sm3, hC3, hU3, srch, shut⟩ := hW
        have qlt := nodup_lt N srch.nd srch.lt
        walk_at "s"
        · rename_i e
          rw [List.length_map] at e
          have hn : n < qs.length := by omega
          have hqn : qs[n]? = some qs[n] := List.getElem?_eq_getElem hn
          have hpN := srch.lt _ (List.mem_of_getElem? hqn)
          have hat : atI (qs.map fun (p : Nat) => V.int (p : Int)) (n : Int) = some (.int (qs[n] : Int)) := atI_nat (by rw [List.getElem?_map, hqn]; rfl)
          generalize qs[n] = p at hqn hpN hat
          obtain ⟨xsL, al, es, hL0, hatL, hal, hEl⟩ := hL.at hpN
          have hL3 := sm3 _ _ hL0
          have hal3 := sm3 _ _ hal
          refine ⟨_, _, _, _, rfl, rfl, SqL.of hU3, hat, ?_⟩
          walk_at "s"
          refine for_listQ (xs := es) Q rfl (fun k σ H4 => ∃ (v9 v10 v11 : Option V) (qs4 : List Nat) (kvs4 : List (Key × V)), σ = [some (.ref L), some (.ref A), some (.ref B), some (.ref St), some (.bl false), some (.int p), some (.ref C), some (.ref U), some (.int ((n : Int) + 1)), v9, v10, v11] ∧ Same H H4 ∧ H4 C = some (.dK kvs4) ∧ H4 U = some (.lst (qs4.map fun (p : Nat) => V.int (p : Int))) ∧ Srch H4 as (fn fs) S N qs4 kvs4 ∧ Shut as (fn fs) qs4 n ∧ qs4[n]? = some p ∧
            (∀ m ln, m < k → (lineL as p)[m]? = some ln → pass as (fn fs) ln.1 ln.2.2 → ln.2.1 ∈ qs4)) ?_ ?_ ?_ ?_
          · exact ⟨_, _, _, qs, kvs, rfl, sm3, hC3, hU3, srch, shut, hqn, fun m ln hm => absurd hm (Nat.not_lt_zero _)⟩
          · intro k σ H4 hk hP
            obtain ⟨v9, v10, v11, qs4, kvs4, rfl, sm4, _⟩ := hP
            exact SqL.of (sm4 _ _ hal)
          · intro M X k x σ H4 hk hP hM
            obtain ⟨v9, v10, v11, qs4, kvs4, rfl, sm4, hC4, hU4, srch4, shut4, hqn4, seen⟩ := hP
            obtain ⟨ln, hln, t, rfl, ht⟩ := hEl.got hk
            have ht4 := sm4 _ _ ht
            obtain ⟨l1, l2, l3⟩ := mem_lineL.mp (List.mem_of_getElem? hln)
            obtain ⟨i, o, fw⟩ := ln
            have l1 : i < as.length := l1
            have l2 : begP as i fw = p := l2
            have l3 : o = endP as i fw := l3
            have qlt4 := nodup_lt N srch4.nd srch4.lt
            have hoN : o < N := by
              have := hok i l1
              rw [l3]
              unfold endP
              split <;> omega
            have step : ∀ qs5 : List Nat, (∀ x ∈ qs4, x ∈ qs5) → (pass as (fn fs) i fw → o ∈ qs5) → ∀ m ln, m < k + 1 → (lineL as p)[m]? = some ln → pass as (fn fs) ln.1 ln.2.2 → ln.2.1 ∈ qs5 := fun qs5 sub here m ln hm hl hp => by
              by_cases z : m = k
              · subst z
                rw [hln] at hl
                cases hl
                exact here hp
              · exact sub _ (seen m ln (by omega) hl hp)
            refine ⟨t, _, rfl, SqT.of ht4, rfl, ?_⟩
            have ht4 : H4 t = some (.tup [.int (i : Int), .int (o : Int), .bl fw]) := ht4
            walk_at "s"
            refine ⟨C, _, rfl, DGet.k (k := Sum.inl (o : Int)) hC4, ?_⟩
            cases e : valV kvs4 (Sum.inl (o : Int) : Key) with
            | some v =>
              have inq : o ∈ qs4 := (srch4.key o).mp (by
                unfold kv
                rw [e]
                rfl)
              walk_at "s"
              · rename_i e3
                cases e3
              refine hM _ _ ⟨_, _, _, qs4, kvs4, rfl, sm4, hC4, hU4, srch4, shut4, hqn4, step qs4 (fun _ h => h) fun _ => inq⟩
            | none =>
              have eb : (!decide (V.bl fw = V.bl false)) = fw := by
                cases fw
                · rfl
                · rfl
              walk_at "s"
              · rename_i e3
                refine ⟨A, B, as, fs, i, fw, by show [V.ref A, V.ref B, V.int (i : Int), V.bl (!decide (V.bl fw = V.bl false))] = _; rw [eb], hA.same sm4, sm4 _ _ hB, hfl, l1, ?_⟩
                have hz4 : kvs4.length < sizeLine := sz_less (by have := srch4.len; omega)
                have hq4 : (qs4.map fun (p : Nat) => V.int (p : Int)).length < sizeLine := sz_less (by rw [List.length_map]; omega)
                have nUC : U ≠ C := nCU.symm
                walk_at "s"
                · rename_i hpass t2 ht2
                  have s5 := same_new (o := .tup [.int i, .int p, .bl fw]) ht2
                  have hC5 := s5 _ _ hC4
                  have nt2C : t2 ≠ C := (ne_of_none hC4 ht2).symm
                  have nt2U : t2 ≠ U := (ne_of_none hU4 ht2).symm
                  refine ⟨C, _, rfl, DPut.k (k := Sum.inl (o : Int)) hC5 hz4, ?_⟩
                  walk_at "s"
                  subst l3
                  subst l2
                  have hU5 := s5 _ _ hU4
                  have t5 : Ts (upd H4 t2 (.tup [.int (i : Int), .int (begP as i fw : Nat), .bl fw])) (upd (upd H4 t2 (.tup [.int (i : Int), .int (begP as i fw : Nat), .bl fw])) C (.dK (putK kvs4 (Sum.inl (endP as i fw : Int)) (.ref t2)))) := fun b ys hb => (upd_ne (fun z => by rw [z, hC5] at hb; cases hb)).trans hb
                  have hU6 : upd (upd H4 t2 (.tup [.int (i : Int), .int (begP as i fw : Nat), .bl fw])) C (.dK (putK kvs4 (Sum.inl (endP as i fw : Int)) (.ref t2))) U = some (.lst (qs4.map fun (p : Nat) => V.int (p : Int))) := (upd_ne nUC).trans hU5
                  have t6 := Ts.upd (o := .lst ((qs4.map fun (p : Nat) => V.int (p : Int)) ++ [.int (endP as i fw : Nat)])) hU6
                  have hend : (begP as i fw) ∈ qs4 := List.mem_of_getElem? hqn4
                  refine hM _ _ ⟨_, _, _, qs4 ++ [endP as i fw], putK kvs4 (Sum.inl (endP as i fw : Int)) (.ref t2), rfl, same_mut (same_mut (sm4.trans s5) hC) hU0, (upd_ne nCU).trans upd_same, ?_, srch4.put ((Ts.of s5).trans (t5.trans t6)) ((upd_ne nt2U).trans ((upd_ne nt2C).trans upd_same)) l1 hpass hqn4 hoN e, shut4.more (by have := (List.getElem?_eq_some_iff.mp hqn4).1; omega) _, ?_, step _ (fun _ h => List.mem_append_left _ h) fun _ => List.mem_append_right _ List.mem_cons_self⟩
                  · rw [upd_same, List.map_append]
                    rfl
                  · rw [List.getElem?_append_left (List.getElem?_eq_some_iff.mp hqn4).1]
                    exact hqn4
                · rename_i hpass
                  exact hM _ _ ⟨_, _, _, qs4, kvs4, rfl, sm4, hC4, hU4, srch4, shut4, hqn4, step qs4 (fun _ h => h) fun hp => absurd hp hpass⟩
              · rename_i e3
                exact absurd rfl e3
          · intro σ H4 hP
            obtain ⟨v9, v10, v11, qs4, kvs4, rfl, sm4, hC4, hU4, srch4, shut4, hqn4, seen⟩ := hP
            have hn4 := (List.getElem?_eq_some_iff.mp hqn4).1
            refine ⟨m - 1, by omega, _, _, _, _, n + 1, qs4, kvs4, by rw [show (((n + 1 : Nat)) : Int) = (n : Int) + 1 from by omega], by omega, by omega, sm4, hC4, hU4, srch4, fun j p' hj hp' i fw hi hb hpass => ?_⟩
            by_cases z : j = n
            · subst z
              rw [hqn4] at hp'
              cases hp'
              have mem : (i, endP as i fw, fw) ∈ lineL as p := mem_lineL.mpr ⟨hi, hb, rfl⟩
              obtain ⟨m', hm', e'⟩ := List.getElem_of_mem mem
              have := seen m' (i, endP as i fw, fw) (by rw [hEl.len]; exact hm') (by rw [List.getElem?_eq_getElem hm', e']) hpass
              exact this
            · exact shut4 j p' (by omega) hp' i fw hi hb hpass
        · rename_i e
          rw [List.length_map] at e
          have hn : n = qs.length := by omega
          subst hn
          exact q C H3 kvs qs sm3 hC ⟨hC3, srch, shut⟩
end
end K15W
set_option Elab.async false
set_option linter.all false
set_option maxRecDepth 100000
set_option maxHeartbeats 4000000
namespace K15W
open PySem PySem.Spec PyProof.Rows L2 TL LW NT FL NF
local macro_rules | `(tactic| walk_at "ne") => `(tactic| first
  | (with_reducible assumption)
  | exact Ne.symm (by assumption)
  | (with_reducible exact ne_of_none (by assumption) (by assumption))
  | (with_reducible exact (ne_of_none (by assumption) (by assumption)).symm)
  | (apply ne_of_none; (case h' => assumption); (case h => walk_at "hp"))
  | (apply Ne.symm; apply ne_of_none; (case h' => assumption); (case h => walk_at "hp")))
local macro_rules | `(tactic| walk_at "hp") => `(tactic| first
  | (with_reducible assumption)
  | exact upd_same
  | (with_reducible exact hp_new (by assumption) (by assumption))
  | (apply hp_new; (case n => assumption); (case h => walk_at "hp"))
  | (refine (upd_ne ?ne).trans ?hp; (case ne => walk_at "ne"); (case hp => walk_at "hp")))
local macro_rules | `(tactic| walk_at "sq") => `(tactic| first
  | ((with_reducible show SqL _ _ _ _); assumption)
  | ((with_reducible show SqT _ _ _ _); assumption)
  | exact SqL.of (by assumption)
  | exact SqL.of upd_same
  | exact SqT.of (by assumption)
  | exact SqT.of upd_same
  | (apply SqL.of; walk_at "hp")
  | (apply SqT.of; walk_at "hp"))
local macro_rules | `(tactic| walk_at "len") => `(tactic| first
  | (with_reducible assumption)
  | exact sz_small (by omega)
  | exact sz_less (by omega)
  | decide
  | (refine sz_small ?_; simp only [List.length_append, List.length_cons, List.length_nil, List.length_map, str_len]; omega)
  | (refine sz_less ?_; simp only [List.length_append, List.length_cons, List.length_nil, List.length_map, str_len]; omega))
local macro_rules | `(tactic| walk_at "cond") => `(tactic| first
  | omega
  | (split <;> omega)
  | (with_reducible assumption)
  | exact .inl ⟨by omega, by omega⟩
  | exact .inr ⟨by omega, by omega⟩
  | exact ⟨by omega, by omega⟩
  | (show (0 : Int) < _; omega)
  | (show (0 : Int) < _; decide +kernel)
  | exact ⟨by omega, by omega, by decide⟩
  | walk_at "len"
  | rfl
  | (show CMulW _ _; unfold CMulW; decide +kernel)
  | exact ⟨_, rfl⟩
  | decide +kernel
  | exact ⟨_, by walk_at "sq"⟩
  | exact .inl ⟨rfl, _, by walk_at "sq"⟩)
local macro_rules | `(tactic| walk_at "at") => `(tactic| first
  | (with_reducible assumption)
  | exact atI_nat (by assumption)
  | exact atI_last _ _
  | exact atI_nat (j := 0) rfl
  | exact atI_nat (j := 1) rfl
  | exact atI_nat (j := 2) rfl
  | exact atI_nat (j := 3) rfl
  | exact atI_nat (j := 4) rfl)
local macro_rules | `(tactic| walk_at "ix") => `(tactic| first
  | (with_reducible assumption)
  | (with_reducible exact ixN_0 (by simp; done))
  | (with_reducible exact ixN_1 (by simp; done))
  | (with_reducible exact ixN_2 (by simp; done))
  | (with_reducible exact Evl.ixN_nat (by assumption))
  | (with_reducible exact Evl.ixN_nat (by omega)))
local macro_rules | `(tactic| walk_at "v") => `(tactic| first
  | exact val_var rfl
  | (with_reducible exact val_c)
  | (with_reducible apply val_orV; (case ha => walk_at "v"); (case hb => walk_at "v"))
  | (with_reducible apply val_andV; (case ha => walk_at "v"); (case hb => walk_at "v"))
  | (with_reducible apply val_notV; walk_at "v")
  | (with_reducible apply val_ifS; (case h => walk_at "w"); (case ha => walk_at "v"); (case hb => walk_at "v"))
  | (with_reducible apply val_ifI; (case h => walk_at "w"); (case ha => walk_at "v"); (case hb => walk_at "v"))
  | (with_reducible apply val_ifB; (case h => walk_at "w"); (case ha => walk_at "v"); (case hb => walk_at "v"))
  | (with_reducible apply val_eqS; (case ha => walk_at "v"); (case hb => walk_at "v"))
  | (with_reducible apply val_eqI; (case ha => walk_at "v"); (case hb => walk_at "v"))
  | (with_reducible apply val_neS; (case ha => walk_at "v"); (case hb => walk_at "v"))
  | (with_reducible apply val_neI; (case ha => walk_at "v"); (case hb => walk_at "v"))
  | (with_reducible apply val_op; (case ha => walk_at "v"); (case hb => walk_at "v"); (case hr => exact fun Q q => ⟨_, _, rfl, rfl, q⟩)))
local macro_rules | `(tactic| walk_at "w") => `(tactic| first
  | (with_reducible apply ans_or2; (case h1 => walk_at "w"); (case h2 => walk_at "w"))
  | (with_reducible apply ans_and2; (case h1 => walk_at "w"); (case h2 => walk_at "w"))
  | (with_reducible apply ans_not; walk_at "w")
  | (with_reducible apply ans_test; walk_at "v")
  | (with_reducible apply ans_val; walk_at "v"))
local macro_rules | `(tactic| walk_at "s2") => `(tactic| first
  | refine ⟨_, rfl, ?_⟩
  | refine ⟨_, _, rfl, rfl, ?_⟩
  | (refine And.intro ?cc ?_; (case cc => walk_at "cond"))
  | refine ⟨_, _, _, _, rfl, rfl, by walk_at "sq", by walk_at "at", ?_⟩
  | refine ⟨_, _, _, _, rfl, rfl, by walk_at "hp", by walk_at "ix", ?_⟩
  | refine ⟨_, _, _, _, rfl, rfl, by walk_at "hp", by walk_at "hp", by walk_at "len", ?_⟩
  | refine ⟨_, _, _, rfl, rfl, by walk_at "len", by walk_at "at", ?_⟩
  | refine ⟨_, _, _, rfl, rfl, by walk_at "hp", by walk_at "len", ?_⟩
  | refine ⟨_, _, _, rfl, rfl, by walk_at "hp", by walk_at "at", ?_⟩
  | refine ⟨_, _, rfl, rfl, by walk_at "sq", ?_⟩
  | refine ⟨_, _, rfl, rfl, by walk_at "len", ?_⟩
  | refine ⟨_, _, rfl, by walk_at "sq", ?_⟩
  | refine ⟨_, _, rfl, .inl (by walk_at "sq"), ?_⟩
  | refine ⟨_, _, rfl, .inr (by walk_at "sq"), ?_⟩
  | refine ⟨_, _, rfl, by walk_at "sq", rfl, ?_⟩
  | refine ⟨_, fun _ _ h => h, ?_⟩
  | refine .inl ⟨_, rfl, ?_⟩
  | refine ⟨_, _, .type "int", .type _, true, rfl, ClsV.ty _, .base (.int _), kit_ty (by decide +kernel), ?_⟩
  | refine ⟨_, _, .type "int", .type _, false, rfl, ClsV.ty _, .base (.int _), kit_ty (by decide +kernel), ?_⟩
  | refine ⟨_, _, .type "bool", .type _, true, rfl, ClsV.ty _, .base (.bl _), kit_ty (by decide +kernel), ?_⟩
  | refine ⟨_, _, .type "bool", .type _, false, rfl, ClsV.ty _, .base (.bl _), kit_ty (by decide +kernel), ?_⟩
  | refine ⟨_, _, .type "str", .type _, true, rfl, ClsV.ty _, .base (.str _), kit_ty (by decide +kernel), ?_⟩
  | refine ⟨_, _, .type "str", .type _, false, rfl, ClsV.ty _, .base (.str _), kit_ty (by decide +kernel), ?_⟩
  | refine ⟨_, _, .type "NoneType", .type _, true, rfl, ClsV.ty _, .base (.non), kit_ty (by decide +kernel), ?_⟩
  | refine ⟨_, _, .type "NoneType", .type _, false, rfl, ClsV.ty _, .base (.non), kit_ty (by decide +kernel), ?_⟩
  | refine ⟨_, _, .type "list", .type _, true, rfl, ClsV.ty _, .base (.lst (by walk_at "hp")), kit_ty (by decide +kernel), ?_⟩
  | refine ⟨_, _, .type "list", .type _, false, rfl, ClsV.ty _, .base (.lst (by walk_at "hp")), kit_ty (by decide +kernel), ?_⟩
  | refine ⟨_, _, .type "tuple", .type _, true, rfl, ClsV.ty _, .base (.tup (by walk_at "hp")), kit_ty (by decide +kernel), ?_⟩
  | refine ⟨_, _, .type "tuple", .type _, false, rfl, ClsV.ty _, .base (.tup (by walk_at "hp")), kit_ty (by decide +kernel), ?_⟩
  | fail)
local macro_rules | `(tactic| walk_at "s1") => `(tactic| first
  | (with_reducible refine go_gcons ?_)
  | (with_reducible refine go_gnil ?_)
  | (with_reducible refine go_seqM ?_)
  | (with_reducible refine go_nextM ?_)
  | (with_reducible refine go_contM ?_)
  | (with_reducible refine go_brkM ?_)
  | (with_reducible refine go_retM ?_)
  | (with_reducible refine go_asgM ?_)
  | (with_reducible refine go_test ?_)
  | (with_reducible refine go_rI0 ?_)
  | (with_reducible refine go_op ?_)
  | (with_reducible refine go_var rfl ?_)
  | ((with_reducible show tFor (iRng1 _) _ _ _ _ _); refine (show iRng1 _ _ _ _ from ?_))
  | (with_reducible refine go_rng1 ?_)
  | (with_reducible refine go_c ?_)
  | (with_reducible apply go_pick; (case hs => walk_at "hp"); (case h0 => walk_at "cond"); (case h1 => walk_at "cond"); (case' q => intro k a b c h0 h1))
  | (with_reducible refine go_nil ?_)
  | (with_reducible refine go_cons ?_)
  | (with_reducible refine go_call ?_)
  | (with_reducible refine go_cb ?_)
  | (with_reducible refine go_next ?_)
  | (with_reducible refine go_cont ?_)
  | (with_reducible refine go_ret ?_)
  | (with_reducible refine go_name ?_)
  | (with_reducible refine go_seq ?_)
  | (with_reducible refine go_asg ?_)
  | (with_reducible apply go_or; (case h => walk_at "v"))
  | (with_reducible apply go_and; (case h => walk_at "v"))
  | (with_reducible apply go_andL; (case h => walk_at "v"); (case' h1 => intro e); (case' h2 => intro e))
  | (with_reducible apply go_orL; (case h => walk_at "v"); (case' h1 => intro e); (case' h2 => intro e))
  | (with_reducible apply go_ifE; (case h => walk_at "v"))
  | (with_reducible apply go_ifOr; (case h => walk_at "w"); (case' h1 => intro e); (case' h2 => intro e))
  | (with_reducible apply go_ifAnd; (case h => walk_at "w"); (case' h1 => intro e); (case' h2 => intro e))
  | (with_reducible refine go_min ?_)
  | (with_reducible refine iteT ?_)
  | (with_reducible refine iteF ?_)
  | (with_reducible refine iteD (fun _ => ?_) (fun e => absurd rfl e))
  | (with_reducible refine iteS (fun e => ?_) (fun e => ?_))
  | (with_reducible refine iteI (fun e => ?_) (fun e => ?_))
  | (with_reducible refine iteSn (fun e => ?_) (fun e => ?_))
  | (with_reducible refine iteIn (fun e => ?_) (fun e => ?_))
  | (with_reducible refine iteD (fun e => ?_) (fun e => ?_))
  | (with_reducible refine iteDn (fun e => ?_) (fun e => ?_))
  | (with_reducible refine ite2 (fun e => ?_) (fun e => ?_))
  | (refine fun (p : Addr) (hp : _ = none) => ?_)
  | ((conv => whnf); walk_at "s2")
  | fail)
local macro_rules | `(tactic| walk_at "s") => `(tactic| repeat' (first
  | (with_reducible refine go_gcons ?_)
  | (with_reducible refine go_gnil ?_)
  | (with_reducible refine go_seqM ?_)
  | (with_reducible refine go_nextM ?_)
  | (with_reducible refine go_contM ?_)
  | (with_reducible refine go_brkM ?_)
  | (with_reducible refine go_retM ?_)
  | (with_reducible refine go_asgM ?_)
  | (with_reducible refine go_test ?_)
  | (with_reducible refine go_rI0 ?_)
  | (with_reducible refine go_op ?_)
  | (with_reducible refine go_var rfl ?_)
  | ((with_reducible show tFor (iRng1 _) _ _ _ _ _); refine (show iRng1 _ _ _ _ from ?_))
  | (with_reducible refine go_rng1 ?_)
  | (with_reducible refine go_c ?_)
  | (with_reducible apply go_pick; (case hs => walk_at "hp"); (case h0 => walk_at "cond"); (case h1 => walk_at "cond"); (case' q => intro k a b c h0 h1))
  | (with_reducible refine go_nil ?_)
  | (with_reducible refine go_cons ?_)
  | (with_reducible refine go_call ?_)
  | (with_reducible refine go_cb ?_)
  | (with_reducible refine go_next ?_)
  | (with_reducible refine go_cont ?_)
  | (with_reducible refine go_ret ?_)
  | (with_reducible refine go_name ?_)
  | (with_reducible refine go_seq ?_)
  | (with_reducible refine go_asg ?_)
  | (with_reducible apply go_or; (case h => walk_at "v"))
  | (with_reducible apply go_and; (case h => walk_at "v"))
  | (with_reducible apply go_andL; (case h => walk_at "v"); (case' h1 => intro e); (case' h2 => intro e))
  | (with_reducible apply go_orL; (case h => walk_at "v"); (case' h1 => intro e); (case' h2 => intro e))
  | (with_reducible apply go_ifE; (case h => walk_at "v"))
  | (with_reducible apply go_ifOr; (case h => walk_at "w"); (case' h1 => intro e); (case' h2 => intro e))
  | (with_reducible apply go_ifAnd; (case h => walk_at "w"); (case' h1 => intro e); (case' h2 => intro e))
  | (with_reducible refine go_min ?_)
  | (with_reducible refine iteT ?_)
  | (with_reducible refine iteF ?_)
  | (with_reducible refine iteD (fun _ => ?_) (fun e => absurd rfl e))
  | (with_reducible refine iteS (fun e => ?_) (fun e => ?_))
  | (with_reducible refine iteI (fun e => ?_) (fun e => ?_))
  | (with_reducible refine iteSn (fun e => ?_) (fun e => ?_))
  | (with_reducible refine iteIn (fun e => ?_) (fun e => ?_))
  | (with_reducible refine iteD (fun e => ?_) (fun e => ?_))
  | (with_reducible refine iteDn (fun e => ?_) (fun e => ?_))
  | (with_reducible refine ite2 (fun e => ?_) (fun e => ?_))
  | (refine fun (p : Addr) (hp : _ = none) => ?_)
  | ((conv => whnf); walk_at "s2")
  | fail))

section
variable {P : Program} {w : World} {K : PySem.W.Frag} {mg : Str → Option Value} {base : Heap}
/-! ### the steps back from a point -/
def StepV (H : Hp) (v : V) (s : Nat × Bool) : Prop := ∃ t, v = .ref t ∧ H t = some (.tup [.int (s.1 : Nat), .bl s.2])
theorem StepV.ts {H H' : Hp} (e : Ts H H') {v : V} {s : Nat × Bool} : StepV H v s → StepV H' v s := fun ⟨t, h1, h2⟩ => ⟨t, h1, e _ _ h2⟩
def StepsAt (H : Hp) (l : Addr) (st : List (Nat × Bool)) : Prop := ∃ xs, H l = some (.lst xs) ∧ Each (StepV H) xs st
theorem StepsAt.same {H H' : Hp} (e : Same H H') {l : Addr} {st : List (Nat × Bool)} : StepsAt H l st → StepsAt H' l st := fun ⟨xs, h1, h2⟩ => ⟨xs, e _ _ h1, h2.mono fun _ _ => StepV.ts (Ts.of e)⟩
def spSteps : Sp := fun vs H Q _ => ∃ (C : Addr) (as : List Ar) (f : Nat → Int) (S T N : Nat) (kvs : List (Key × V)) (qs : List Nat), vs = [.ref C, .int T] ∧ Came H as f S N C kvs qs ∧ N ≤ 1000 ∧ T ∈ qs ∧
  ∀ l H' st, Same H H' → H l = none → StepsAt H' l st → st.length ≤ N → Pth as f (pos qs) S T st → Q (.ref l) H'
theorem ok_steps (T : Top w K mg) : FnOk P w K mg base CX0 1 T.a_steps_to T.d_steps_to ["came", "point"] spSteps := by
  refine T.F_steps_to.ok sc_steps_to (fun vs H Q E h => ?_) (fun cdv A outer s H vs Q E hr h => ?_)
  · obtain ⟨C, as, f, S, T', N, kvs, qs, rfl, _⟩ := h
    rfl
  · obtain ⟨C, as, f, S, T', N, kvs, qs, rfl, ⟨hC, srch, shut⟩, hN, hT, q⟩ := h
    have hu := hu_of hr
    have qlt := nodup_lt N srch.nd srch.lt
    refine ⟨_, (pss_cons (ps_set (i := 2) sc_steps_to.nd rfl (.inl rfl) (pe_lst pa_nil))
    (pss_cons (ps_while PassesOwn.never (pt_cmpR op_notN (pe_dget hu (pv 0) (pv 1) (fun _ _ => rfl)) pe_non (nomark _))
    (pss_cons (ps_asg (pe_dget hu (pv 0) (pv 1) (fun _ _ => rfl)) (pg_tup rfl (pgs_cons (pg_name (i := 3) sc_steps_to.nd rfl (.inl rfl)) (pgs_cons (pg_name (i := 4) sc_steps_to.nd rfl (.inl rfl)) (pgs_cons (pg_name (i := 5) sc_steps_to.nd rfl (.inl rfl)) pgs_nil)))))
    (pss_cons (ps_expr (pe_bm PySem.F.plainAttrs_list PySem.F.slot_list_append PySem.F.type_list_append mt_append (pv 2) (pa_cons (pe_tup (pa_cons (pv 3) (pa_cons (pv 5) pa_nil))) pa_nil)))
    (pss_one (ps_set (i := 1) sc_steps_to.nd rfl (.inl rfl) (pv 4))))))
    (pss_one (ps_ret (pv 2))))), ?_⟩
    walk_at "s"
    rename_i L hL
    have nCL : C ≠ L := ne_of_none hC hL
    refine ⟨fun m σ H2 => ∃ (v3 v4 v5 : Option V) (p : Nat) (xs : List V) (done : List (Nat × Bool)), σ = [some (.ref C), some (.int p), some (.ref L), v3, v4, v5] ∧ qs[m]? = some p ∧ Same H H2 ∧ H2 L = some (.lst xs) ∧ Each (StepV H2) xs done ∧ done.length + m ≤ N ∧ ∀ st, Pth as f (pos qs) S p st → Pth as f (pos qs) S T' (done ++ st), ?_, fun m σ H2 hW => ?_⟩
    · obtain ⟨m, hm, e⟩ := List.getElem_of_mem hT
      exact ⟨m, _, _, _, T', [], [], rfl, by rw [List.getElem?_eq_getElem hm, e], same_new hL, upd_same, .nil, by rw [List.length_nil]; omega, fun st h => h⟩
    · obtain ⟨v3, v4, v5, p, xs, done, rfl, hqm, sm, hL2, hE, hdl, chain⟩ := hW
      have hC2 := sm _ _ hC
      have hin := List.mem_of_getElem? hqm
      obtain ⟨v, hv⟩ : ∃ v, kv kvs p = some v := Option.isSome_iff_exists.mp ((srch.key p).mpr hin)
      have hxl := hE.len
      have hv' : valV kvs (Sum.inl (p : Int) : Key) = some v := hv
      have get : ∀ {H5 : Hp}, H5 C = some (.dK kvs) → DGet H5 C (V.int (p : Int)) (some v) := fun {H5} h => by
        rw [← hv']
        exact DGet.k (k := Sum.inl (p : Int)) h
      walk_at "s"
      refine ⟨C, v, rfl, get hC2, ?_⟩
      rcases srch.met p v hv with ⟨e1, rfl⟩ | ⟨t, i, fw, j, k, rfl, ht, hi, hpass, hend, hpS, hqj, hqk, hkj⟩
      · walk_at "s"
        · rename_i e
          exact absurd rfl e
        subst e1
        have c := chain [] Pth.nil
        rw [List.append_nil] at c
        exact q L H2 done sm hL ⟨xs, hL2, hE⟩ (by omega) c
      · have ht2 := sm _ _ ht
        have ejm : j = m := nodup_at srch.nd hqj hqm
        subst ejm
        walk_at "s"
        · refine ⟨C, _, rfl, get hC2, ?_⟩
          refine ⟨t, _, rfl, SqT.of ht2, rfl, ?_⟩
          have hxz : xs.length < sizeLine := sz_less (by omega)
          walk_at "s"
          rename_i e t2 ht2'
          have s3 := same_new (o := .tup [.int i, .bl fw]) ht2'
          have hL3 := s3 _ _ hL2
          have nt2 : t2 ≠ L := (ne_of_none hL2 ht2').symm
          have t3 := (Ts.of s3).trans (Ts.upd (o := .lst (xs ++ [.ref t2])) hL3)
          refine ⟨k, hkj, _, _, _, begP as i fw, xs ++ [.ref t2], done ++ [(i, fw)], rfl, hqk, same_mut (sm.trans s3) hL, upd_same, (hE.mono fun _ _ => StepV.ts t3).snoc ⟨t2, rfl, (upd_ne nt2).trans upd_same⟩, by rw [List.length_append, List.length_singleton]; omega, fun st h => ?_⟩
          rw [List.append_assoc]
          have st2 := Pth.step h hi hpass (by rw [hend, pos_at srch.nd hqj, pos_at srch.nd hqk]; exact hkj)
          rw [hend] at st2
          exact chain _ st2
        · rename_i e
          cases e
end
end K15W
set_option Elab.async false
set_option linter.all false
set_option maxRecDepth 100000
set_option maxHeartbeats 4000000
namespace K15W
open PySem PySem.Spec PyProof.Rows L2 TL LW NT FL NF
local macro_rules | `(tactic| walk_at "ne") => `(tactic| first
  | (with_reducible assumption)
  | exact Ne.symm (by assumption)
  | (with_reducible exact ne_of_none (by assumption) (by assumption))
  | (with_reducible exact (ne_of_none (by assumption) (by assumption)).symm)
  | (apply ne_of_none; (case h' => assumption); (case h => walk_at "hp"))
  | (apply Ne.symm; apply ne_of_none; (case h' => assumption); (case h => walk_at "hp")))
local macro_rules | `(tactic| walk_at "hp") => `(tactic| first
  | (with_reducible assumption)
  | exact upd_same
  | (with_reducible exact hp_new (by assumption) (by assumption))
  | (apply hp_new; (case n => assumption); (case h => walk_at "hp"))
  | (refine (upd_ne ?ne).trans ?hp; (case ne => walk_at "ne"); (case hp => walk_at "hp")))
local macro_rules | `(tactic| walk_at "sq") => `(tactic| first
  | ((with_reducible show SqL _ _ _ _); assumption)
  | ((with_reducible show SqT _ _ _ _); assumption)
  | exact SqL.of (by assumption)
  | exact SqL.of upd_same
  | exact SqT.of (by assumption)
  | exact SqT.of upd_same
  | (apply SqL.of; walk_at "hp")
  | (apply SqT.of; walk_at "hp"))
local macro_rules | `(tactic| walk_at "len") => `(tactic| first
  | (with_reducible assumption)
  | exact sz_small (by omega)
  | exact sz_less (by omega)
  | decide
  | (refine sz_small ?_; simp only [List.length_append, List.length_cons, List.length_nil, List.length_map, str_len]; omega)
  | (refine sz_less ?_; simp only [List.length_append, List.length_cons, List.length_nil, List.length_map, str_len]; omega))
local macro_rules | `(tactic| walk_at "cond") => `(tactic| first
  | omega
  | (split <;> omega)
  | (with_reducible assumption)
  | exact .inl ⟨by omega, by omega⟩
  | exact .inr ⟨by omega, by omega⟩
  | exact ⟨by omega, by omega⟩
  | (show (0 : Int) < _; omega)
  | (show (0 : Int) < _; decide +kernel)
  | exact ⟨by omega, by omega, by decide⟩
  | walk_at "len"
  | rfl
  | (show CMulW _ _; unfold CMulW; decide +kernel)
  | exact ⟨_, rfl⟩
  | decide +kernel
  | exact ⟨_, by walk_at "sq"⟩
  | exact .inl ⟨rfl, _, by walk_at "sq"⟩)
local macro_rules | `(tactic| walk_at "at") => `(tactic| first
  | (with_reducible assumption)
  | exact atI_nat (by assumption)
  | exact atI_last _ _
  | exact atI_nat (j := 0) rfl
  | exact atI_nat (j := 1) rfl
  | exact atI_nat (j := 2) rfl
  | exact atI_nat (j := 3) rfl
  | exact atI_nat (j := 4) rfl)
local macro_rules | `(tactic| walk_at "ix") => `(tactic| first
  | (with_reducible assumption)
  | (with_reducible exact ixN_0 (by simp; done))
  | (with_reducible exact ixN_1 (by simp; done))
  | (with_reducible exact ixN_2 (by simp; done))
  | (with_reducible exact Evl.ixN_nat (by assumption))
  | (with_reducible exact Evl.ixN_nat (by omega)))
local macro_rules | `(tactic| walk_at "v") => `(tactic| first
  | exact val_var rfl
  | (with_reducible exact val_c)
  | (with_reducible apply val_orV; (case ha => walk_at "v"); (case hb => walk_at "v"))
  | (with_reducible apply val_andV; (case ha => walk_at "v"); (case hb => walk_at "v"))
  | (with_reducible apply val_notV; walk_at "v")
  | (with_reducible apply val_ifS; (case h => walk_at "w"); (case ha => walk_at "v"); (case hb => walk_at "v"))
  | (with_reducible apply val_ifI; (case h => walk_at "w"); (case ha => walk_at "v"); (case hb => walk_at "v"))
  | (with_reducible apply val_ifB; (case h => walk_at "w"); (case ha => walk_at "v"); (case hb => walk_at "v"))
  | (with_reducible apply val_eqS; (case ha => walk_at "v"); (case hb => walk_at "v"))
  | (with_reducible apply val_eqI; (case ha => walk_at "v"); (case hb => walk_at "v"))
  | (with_reducible apply val_neS; (case ha => walk_at "v"); (case hb => walk_at "v"))
  | (with_reducible apply val_neI; (case ha => walk_at "v"); (case hb => walk_at "v"))
  | (with_reducible apply val_op; (case ha => walk_at "v"); (case hb => walk_at "v"); (case hr => exact fun Q q => ⟨_, _, rfl, rfl, q⟩)))
local macro_rules | `(tactic| walk_at "w") => `(tactic| first
  | (with_reducible apply ans_or2; (case h1 => walk_at "w"); (case h2 => walk_at "w"))
  | (with_reducible apply ans_and2; (case h1 => walk_at "w"); (case h2 => walk_at "w"))
  | (with_reducible apply ans_not; walk_at "w")
  | (with_reducible apply ans_test; walk_at "v")
  | (with_reducible apply ans_val; walk_at "v"))
local macro_rules | `(tactic| walk_at "s2") => `(tactic| first
  | refine ⟨_, rfl, ?_⟩
  | refine ⟨_, _, rfl, rfl, ?_⟩
  | (refine And.intro ?cc ?_; (case cc => walk_at "cond"))
  | refine ⟨_, _, _, _, rfl, rfl, by walk_at "sq", by walk_at "at", ?_⟩
  | refine ⟨_, _, _, _, rfl, rfl, by walk_at "hp", by walk_at "ix", ?_⟩
  | refine ⟨_, _, _, _, rfl, rfl, by walk_at "hp", by walk_at "hp", by walk_at "len", ?_⟩
  | refine ⟨_, _, _, rfl, rfl, by walk_at "len", by walk_at "at", ?_⟩
  | refine ⟨_, _, _, rfl, rfl, by walk_at "hp", by walk_at "len", ?_⟩
  | refine ⟨_, _, _, rfl, rfl, by walk_at "hp", by walk_at "at", ?_⟩
  | refine ⟨_, _, rfl, rfl, by walk_at "sq", ?_⟩
  | refine ⟨_, _, rfl, rfl, by walk_at "len", ?_⟩
  | refine ⟨_, _, rfl, by walk_at "sq", ?_⟩
  | refine ⟨_, _, rfl, .inl (by walk_at "sq"), ?_⟩
  | refine ⟨_, _, rfl, .inr (by walk_at "sq"), ?_⟩
  | refine ⟨_, _, rfl, by walk_at "sq", rfl, ?_⟩
  | refine ⟨_, fun _ _ h => h, ?_⟩
  | refine .inl ⟨_, rfl, ?_⟩
  | refine ⟨_, _, .type "int", .type _, true, rfl, ClsV.ty _, .base (.int _), kit_ty (by decide +kernel), ?_⟩
  | refine ⟨_, _, .type "int", .type _, false, rfl, ClsV.ty _, .base (.int _), kit_ty (by decide +kernel), ?_⟩
  | refine ⟨_, _, .type "bool", .type _, true, rfl, ClsV.ty _, .base (.bl _), kit_ty (by decide +kernel), ?_⟩
  | refine ⟨_, _, .type "bool", .type _, false, rfl, ClsV.ty _, .base (.bl _), kit_ty (by decide +kernel), ?_⟩
  | refine ⟨_, _, .type "str", .type _, true, rfl, ClsV.ty _, .base (.str _), kit_ty (by decide +kernel), ?_⟩
  | refine ⟨_, _, .type "str", .type _, false, rfl, ClsV.ty _, .base (.str _), kit_ty (by decide +kernel), ?_⟩
  | refine ⟨_, _, .type "NoneType", .type _, true, rfl, ClsV.ty _, .base (.non), kit_ty (by decide +kernel), ?_⟩
  | refine ⟨_, _, .type "NoneType", .type _, false, rfl, ClsV.ty _, .base (.non), kit_ty (by decide +kernel), ?_⟩
  | refine ⟨_, _, .type "list", .type _, true, rfl, ClsV.ty _, .base (.lst (by walk_at "hp")), kit_ty (by decide +kernel), ?_⟩
  | refine ⟨_, _, .type "list", .type _, false, rfl, ClsV.ty _, .base (.lst (by walk_at "hp")), kit_ty (by decide +kernel), ?_⟩
  | refine ⟨_, _, .type "tuple", .type _, true, rfl, ClsV.ty _, .base (.tup (by walk_at "hp")), kit_ty (by decide +kernel), ?_⟩
  | refine ⟨_, _, .type "tuple", .type _, false, rfl, ClsV.ty _, .base (.tup (by walk_at "hp")), kit_ty (by decide +kernel), ?_⟩
  | fail)
local macro_rules | `(tactic| walk_at "s1") => `(tactic| first
  | (with_reducible refine go_gcons ?_)
  | (with_reducible refine go_gnil ?_)
  | (with_reducible refine go_seqM ?_)
  | (with_reducible refine go_nextM ?_)
  | (with_reducible refine go_contM ?_)
  | (with_reducible refine go_brkM ?_)
  | (with_reducible refine go_retM ?_)
  | (with_reducible refine go_asgM ?_)
  | (with_reducible refine go_test ?_)
  | (with_reducible refine go_rI0 ?_)
  | (with_reducible refine go_op ?_)
  | (with_reducible refine go_var rfl ?_)
  | ((with_reducible show tFor (iRng1 _) _ _ _ _ _); refine (show iRng1 _ _ _ _ from ?_))
  | (with_reducible refine go_rng1 ?_)
  | (with_reducible refine go_c ?_)
  | (with_reducible apply go_pick; (case hs => walk_at "hp"); (case h0 => walk_at "cond"); (case h1 => walk_at "cond"); (case' q => intro k a b c h0 h1))
  | (with_reducible refine go_nil ?_)
  | (with_reducible refine go_cons ?_)
  | (with_reducible refine go_call ?_)
  | (with_reducible refine go_cb ?_)
  | (with_reducible refine go_next ?_)
  | (with_reducible refine go_cont ?_)
  | (with_reducible refine go_ret ?_)
  | (with_reducible refine go_name ?_)
  | (with_reducible refine go_seq ?_)
  | (with_reducible refine go_asg ?_)
  | (with_reducible apply go_or; (case h => walk_at "v"))
  | (with_reducible apply go_and; (case h => walk_at "v"))
  | (with_reducible apply go_andL; (case h => walk_at "v"); (case' h1 => intro e); (case' h2 => intro e))
  | (with_reducible apply go_orL; (case h => walk_at "v"); (case' h1 => intro e); (case' h2 => intro e))
  | (with_reducible apply go_ifE; (case h => walk_at "v"))
  | (with_reducible apply go_ifOr; (case h => walk_at "w"); (case' h1 => intro e); (case' h2 => intro e))
  | (with_reducible apply go_ifAnd; (case h => walk_at "w"); (case' h1 => intro e); (case' h2 => intro e))
  | (with_reducible refine go_min ?_)
  | (with_reducible refine iteT ?_)
  | (with_reducible refine iteF ?_)
  | (with_reducible refine iteD (fun _ => ?_) (fun e => absurd rfl e))
  | (with_reducible refine iteS (fun e => ?_) (fun e => ?_))
  | (with_reducible refine iteI (fun e => ?_) (fun e => ?_))
  | (with_reducible refine iteSn (fun e => ?_) (fun e => ?_))
  | (with_reducible refine iteIn (fun e => ?_) (fun e => ?_))
  | (with_reducible refine iteD (fun e => ?_) (fun e => ?_))
  | (with_reducible refine iteDn (fun e => ?_) (fun e => ?_))
  | (with_reducible refine ite2 (fun e => ?_) (fun e => ?_))
  | (refine fun (p : Addr) (hp : _ = none) => ?_)
  | ((conv => whnf); walk_at "s2")
  | fail)
local macro_rules | `(tactic| walk_at "s") => `(tactic| repeat' (first
  | (with_reducible refine go_gcons ?_)
  | (with_reducible refine go_gnil ?_)
  | (with_reducible refine go_seqM ?_)
  | (with_reducible refine go_nextM ?_)
  | (with_reducible refine go_contM ?_)
  | (with_reducible refine go_brkM ?_)
  | (with_reducible refine go_retM ?_)
  | (with_reducible refine go_asgM ?_)
  | (with_reducible refine go_test ?_)
  | (with_reducible refine go_rI0 ?_)
  | (with_reducible refine go_op ?_)
  | (with_reducible refine go_var rfl ?_)
  | ((with_reducible show tFor (iRng1 _) _ _ _ _ _); refine (show iRng1 _ _ _ _ from ?_))
  | (with_reducible refine go_rng1 ?_)
  | (with_reducible refine go_c ?_)
  | (with_reducible apply go_pick; (case hs => walk_at "hp"); (case h0 => walk_at "cond"); (case h1 => walk_at "cond"); (case' q => intro k a b c h0 h1))
  | (with_reducible refine go_nil ?_)
  | (with_reducible refine go_cons ?_)
  | (with_reducible refine go_call ?_)
  | (with_reducible refine go_cb ?_)
  | (with_reducible refine go_next ?_)
  | (with_reducible refine go_cont ?_)
  | (with_reducible refine go_ret ?_)
  | (with_reducible refine go_name ?_)
  | (with_reducible refine go_seq ?_)
  | (with_reducible refine go_asg ?_)
  | (with_reducible apply go_or; (case h => walk_at "v"))
  | (with_reducible apply go_and; (case h => walk_at "v"))
  | (with_reducible apply go_andL; (case h => walk_at "v"); (case' h1 => intro e); (case' h2 => intro e))
  | (with_reducible apply go_orL; (case h => walk_at "v"); (case' h1 => intro e); (case' h2 => intro e))
  | (with_reducible apply go_ifE; (case h => walk_at "v"))
  | (with_reducible apply go_ifOr; (case h => walk_at "w"); (case' h1 => intro e); (case' h2 => intro e))
  | (with_reducible apply go_ifAnd; (case h => walk_at "w"); (case' h1 => intro e); (case' h2 => intro e))
  | (with_reducible refine go_min ?_)
  | (with_reducible refine iteT ?_)
  | (with_reducible refine iteF ?_)
  | (with_reducible refine iteD (fun _ => ?_) (fun e => absurd rfl e))
  | (with_reducible refine iteS (fun e => ?_) (fun e => ?_))
  | (with_reducible refine iteI (fun e => ?_) (fun e => ?_))
  | (with_reducible refine iteSn (fun e => ?_) (fun e => ?_))
  | (with_reducible refine iteIn (fun e => ?_) (fun e => ?_))
  | (with_reducible refine iteD (fun e => ?_) (fun e => ?_))
  | (with_reducible refine iteDn (fun e => ?_) (fun e => ?_))
  | (with_reducible refine ite2 (fun e => ?_) (fun e => ?_))
  | (refine fun (p : Addr) (hp : _ = none) => ?_)
  | ((conv => whnf); walk_at "s2")
  | fail))

section
variable {P : Program} {w : World} {K : PySem.W.Frag} {mg : Str → Option Value} {base : Heap}
/-! ### a greatest flow -/
theorem same_wo {H : Hp} {M : Addr} {o : HO} (h : H M = none) : Same H (wo M (upd H M o)) := fun b x e => by
  have n : b ≠ M := ne_of_none e h
  rw [wo_ne n, upd_ne n]
  exact e
theorem arcs_ok {rs : List Rw} (hW : WF rs) {ws : List Int} (hn : rs.length ≤ 20) : ArcsOk (arcs rs ws) (2 * rs.length + 2) := ⟨arcs_len hn, fun i hi => ⟨(arcs_pts hW i hi).1, (arcs_pts hW i hi).2, arcs_ne hW i hi⟩⟩
def spFilled : Sp := fun vs H Q _ => ∃ (A : Addr) (rs : List Rw) (ws : List Int), vs = [.int (2 * rs.length + 2 : Nat), .ref A, .int (SS rs : Nat), .int (NF.TT rs : Nat)] ∧ ArcsAt H A (arcs rs ws) ∧ WF rs ∧ rs.length ≤ 20 ∧ InR rs ws ∧
  ∀ m H' fs, Same H H' → H m = none → H' m = some (.lst (fs.map V.int)) → Max rs ws fs → Q (.ref m) H'
theorem ok_filled (T : Top w K mg) : FnOk P w K mg base CX0 3 T.a_filled T.d_filled ["points", "arcs", "source", "sink"] spFilled := by
  have G_lines_at := ok_lines_at (P := P) (w := w) (base := base) T
  have G_reached := ok_reached (P := P) (w := w) (base := base) T
  have G_steps_to := ok_steps (P := P) (w := w) (base := base) T
  have G_room_left := ok_room (P := P) (w := w) (base := base) T
  refine T.F_filled.ok sc_filled (fun vs H Q E h => ?_) (fun cdv A outer s H vs Q E hr h => ?_)
  · obtain ⟨A, rs, ws, rfl, _⟩ := h
    rfl
  · obtain ⟨A, rs, ws, rfl, hA, hW, hn, hw, q⟩ := h
    have hu := hu_of hr
    refine ⟨_, (pss_cons (ps_set (i := 4) sc_filled.nd rfl (.inl rfl) (pe_call G_lines_at (hr.mono (by omega)) (by rfl) T.m_lines_at T.F_lines_at.kp T.b_lines_at .nil pass0 (pa_cons (pv 0) (pa_cons (pv 1) pa_nil))))
    (pss_cons (ps_set (i := 5) sc_filled.nd rfl (.inr rfl) (pe_op op_rep (pe_lst (pa_cons pe_int pa_nil)) (pe_callB call_len_seq (by rfl) T.m_len (by decide +kernel) (pa_cons (pv 1) pa_nil))))
    (pss_cons (ps_set (i := 6) sc_filled.nd rfl (.inl rfl) (pe_call G_reached (hr.mono (by omega)) (by rfl) T.m_reached T.F_reached.kp T.b_reached .nil pass0 (pa_cons (pv 4) (pa_cons (pv 1) (pa_cons (pv 5) (pa_cons (pe_lst (pa_cons (pv 2) pa_nil)) (pa_cons pe_bl pa_nil)))))))
    (pss_cons (ps_while PassesOwn.never (pt_cmp (pc_din hu (pv 3) (pv 6)))
    (pss_cons (ps_set (i := 7) sc_filled.nd rfl (.inl rfl) (pe_call G_steps_to (hr.mono (by omega)) (by rfl) T.m_steps_to T.F_steps_to.kp T.b_steps_to .nil pass0 (pa_cons (pv 6) (pa_cons (pv 3) pa_nil))))
    (pss_cons (ps_setLc (i := 10) (own := [("arc", 8), ("forward", 9)]) rfl sc_filled.nd rfl rfl (sw_true rfl rfl rfl (by decide +kernel)) (pi_list (pv 7)) (blkOk_by (own := [("arc", 8), ("forward", 9)]) (N := ["points", "arcs", "source", "sink", "lines", "amounts", "came", "steps", "arc", "forward", "rooms", "least", "room"]) (sc := defScope s_filled) (by decide +kernel)) (fun _ _ _ _ _ => (pg_tupB (K := K) (n := 2) rfl rfl (pgs_cons (pg_name (i := 8) sc_filled.nd rfl (.inl rfl)) (pgs_cons (pg_name (i := 9) sc_filled.nd rfl (.inl rfl)) pgs_nil)))) (fun _ _ _ _ _ => pts_nil) (fun _ _ _ _ _ => (pe_call G_room_left (hr.mono (by omega)) (by rfl) T.m_room_left T.F_room_left.kp T.b_room_left .nil pass0 (pa_cons (pv 1) (pa_cons (pv 5) (pa_cons (pv 8) (pa_cons (pv 9) pa_nil)))))))
    (pss_cons (ps_set (i := 11) sc_filled.nd rfl (.inl rfl) (pe_callB (cr_min rfl) (by rfl) T.m_min (by decide +kernel) (pa_cons (pe_lc (own := [("room", 12)]) rfl sc_filled.nd (pi_list (pv 10)) (blkOk_by (own := [("room", 12)]) (N := ["points", "arcs", "source", "sink", "lines", "amounts", "came", "steps", "arc", "forward", "rooms", "least", "room"]) (sc := defScope s_filled) (by decide +kernel)) (fun _ _ _ _ _ => (pg_name (i := 12) sc_filled.nd rfl (.inl rfl))) (fun _ _ _ _ _ => pts_one (pt_cmpR op_notN (pv 12) pe_non (nomark _))) (fun _ _ _ _ _ => (pv 12))) pa_nil)))
    (pss_cons (ps_for PassesOwn.never rfl (pi_list (pv 7)) (pg_tup rfl (pgs_cons (pg_name (i := 8) sc_filled.nd rfl (.inl rfl)) (pgs_cons (pg_name (i := 9) sc_filled.nd rfl (.inl rfl)) pgs_nil)))
    (pss_one (ps_if (pt_val (pv 9))
    (pss_one (ps_augS (pv 5) (pv 8) get_listN (pv 11) ip_add set_list))
    (pss_one (ps_augS (pv 5) (pv 8) get_listN (pv 11) ip_sub set_list)))))
    (pss_one (ps_set (i := 6) sc_filled.nd rfl (.inl rfl) (pe_call G_reached (hr.mono (by omega)) (by rfl) T.m_reached T.F_reached.kp T.b_reached .nil pass0 (pa_cons (pv 4) (pa_cons (pv 1) (pa_cons (pv 5) (pa_cons (pe_lst (pa_cons (pv 2) pa_nil)) (pa_cons pe_bl pa_nil)))))))))))))
    (pss_one (ps_ret (pv 5))))))), ?_⟩
    have aok := arcs_ok hW (ws := ws) hn
    obtain ⟨xs, hA0, hE⟩ := id hA
    have hxl := hE.len
    have hSN : SS rs < 2 * rs.length + 2 := by unfold SS; omega
    have hST : SS rs ≠ NF.TT rs := by unfold SS NF.TT; omega
    have hSe : SS rs % 2 = 0 := by unfold SS; omega
    have hTo : NF.TT rs % 2 = 1 := by unfold NF.TT; omega
    walk_at "s"
    refine ⟨2 * rs.length + 2, A, arcs rs ws, rfl, hA, by omega, aok, fun L H1 sm1 nL hL => ?_⟩
    have hA1 := sm1 _ _ hA0
    walk_at "s"
    rename_i p hp
    refine ⟨p, (xs.length : Int), [.int 0], rfl, rfl, upd_same, by omega, by have := aok.1; omega, sz_small (by show 1 * _ ≤ _; have := aok.1; omega), fun M hM => ?_⟩
    have eM : (List.replicate ((xs.length : Int)).toNat [V.int 0]).flatten = (List.replicate (arcs rs ws).length 0).map V.int := by
      rw [Int.toNat_natCast, hxl, List.map_replicate]
      exact List.flatten_replicate_singleton
    rw [eM]
    have sm2 := (sm1.trans (same_new (o := .lst [.int 0]) hp)).trans (same_new (o := .lst ((List.replicate (arcs rs ws).length 0).map V.int)) hM)
    have hM2 : upd (upd H1 p (.lst [.int 0])) M (.lst ((List.replicate (arcs rs ws).length 0).map V.int)) M = some (.lst ((List.replicate (arcs rs ws).length 0).map V.int)) := upd_same
    have nM : H M = none := (sm1.trans (same_new (o := .lst [.int 0]) hp)).free hM
    have hL2 := hL.same ((same_new (o := .lst [.int 0]) hp).trans (same_new (o := .lst ((List.replicate (arcs rs ws).length 0).map V.int)) hM))
    have hLw : LinesAt (wo M (upd (upd H1 p (.lst [.int 0])) M (.lst ((List.replicate (arcs rs ws).length 0).map V.int)))) L (arcs rs ws) (2 * rs.length + 2) := (hL.same (same_new (o := .lst [.int 0]) hp)).same (same_wo hM)
    generalize upd (upd H1 p (.lst [.int 0])) M (.lst ((List.replicate (arcs rs ws).length 0).map V.int)) = H2 at sm2 hM2 hL2 hLw ⊢
    walk_at "s"
    rename_i p2 hp2
    have s3 := same_new (o := .lst [.int (SS rs : Nat)]) hp2
    refine ⟨L, A, M, p2, arcs rs ws, List.replicate (arcs rs ws).length 0, SS rs, 2 * rs.length + 2, rfl, hL2.same s3, hA.same (sm2.trans s3), s3 _ _ hM2, List.length_replicate, upd_same, hSN, by omega, aok, fun C H4 kvs qs sm4 nC hC => ?_⟩
    have s24 := s3.trans sm4
    have hM4 := s24 _ _ hM2
    have F0 : Flow (arcs rs ws) (SS rs) (NF.TT rs) (fn (List.replicate (arcs rs ws).length 0)) := by
      rw [fn_rep]
      exact flow_zero (arcs_cap hW)
    walk_at "s"
    refine ⟨fun m σ H5 => ∃ (C : Addr) (v7 v8 v9 v10 v11 : Option V) (fs : List Int) (kvs : List (Key × V)) (qs : List Nat), σ = [some (.int (2 * rs.length + 2 : Nat)), some (.ref A), some (.int (SS rs : Nat)), some (.int (NF.TT rs : Nat)), some (.ref L), some (.ref M), some (.ref C), v7, v8, v9, v10, v11, none] ∧ Same H H5 ∧ LinesAt (wo M H5) L (arcs rs ws) (2 * rs.length + 2) ∧ H5 M = some (.lst (fs.map V.int)) ∧ fs.length = (arcs rs ws).length ∧ Flow (arcs rs ws) (SS rs) (NF.TT rs) (fn fs) ∧ Came H5 (arcs rs ws) (fn fs) (SS rs) (2 * rs.length + 2) C kvs qs ∧ C ≠ M ∧ (m : Int) = bnd rs ws - div (arcs rs ws) (fn fs) (SS rs), ?_, fun m σ H5 hWh => ?_⟩
    · obtain ⟨m, hm⟩ : ∃ m : Nat, (m : Int) = bnd rs ws - div (arcs rs ws) (fn (List.replicate (arcs rs ws).length 0)) (SS rs) := ⟨_, Int.toNat_of_nonneg (by have := value_le hW hw F0; omega)⟩
      exact ⟨m, C, _, _, _, _, _, _, kvs, qs, rfl, sm2.trans s24, hLw.same (But.of s24).hid, hM4, List.length_replicate, F0, hC, (ne_of_none hM2 (s3.free nC)).symm, hm⟩
    · obtain ⟨C, v7, v8, v9, v10, v11, fs, kvs, qs, rfl, sm5, hLw5, hM5, hfl, F, came, nCM, hm⟩ := hWh
      have hA5 := hA.same sm5
      have hL5 := hLw5.same wo_same
      walk_at "s"
      refine ⟨C, _, rfl, DGet.k (k := Sum.inl (NF.TT rs : Int)) came.at_, ?_⟩
      cases eT : valV kvs (Sum.inl (NF.TT rs : Int) : Key) with
      | none =>
        walk_at "s"
        · rename_i e
          cases e
        · refine q M H5 fs sm5 nM hM5 ⟨hfl, F, fun p => (kv kvs p).isSome, (came.srch.key _).mpr (List.mem_of_getElem? came.srch.hd), ?_, fun i fw hi hb hp => ?_⟩
          · show (valV kvs (Sum.inl (NF.TT rs : Int) : Key)).isSome = false
            rw [eT]
            rfl
          · have hin := (came.srch.key _).mp hb
            obtain ⟨j, hj, e⟩ := List.getElem_of_mem hin
            exact (came.srch.key _).mpr (came.shut j _ hj (by rw [List.getElem?_eq_getElem hj, e]) i fw hi rfl hp)
      | some vT =>
        have hTq : NF.TT rs ∈ qs := (came.srch.key _).mp (by
          unfold kv
          rw [eT]
          rfl)
        walk_at "s"
        · refine ⟨C, arcs rs ws, fn fs, SS rs, NF.TT rs, 2 * rs.length + 2, kvs, qs, rfl, came, by omega, hTq, fun l H6 st sm6 nl hst hstl pth => ?_⟩
          obtain ⟨xst, hl6, hEs⟩ := id hst
          have hxst := hEs.len
          have hM6 := sm6 _ _ hM5
          have hA6 := hA5.same sm6
          have hpp := pth_pass pth
          walk_at "s"
          rename_i D hD
          refine lc_list (xs := xst) (fun j H7 => Same H6 H7 ∧ H7 D = some (.lst ((st.take j).map fun s => roomV (arcs rs ws) (fn fs) s.1 s.2))) ?_ ?_ ?_ ?_
          · exact ⟨same_new hD, upd_same⟩
          · intro j H7 hj hP
            exact SqL.of (hP.1 _ _ hl6)
          · intro j x H7 hj hP
            obtain ⟨sm7, hD7⟩ := hP
            obtain ⟨s1, hs1, t, rfl, ht⟩ := hEs.got hj
            obtain ⟨i, fw⟩ := s1
            have ht7 := sm7 _ _ ht
            have hjl := (List.getElem?_eq_some_iff.mp hs1).1
            obtain ⟨hi, hpass⟩ := hpp _ (List.mem_of_getElem? hs1)
            refine ⟨t, _, rfl, SqT.of ht7, rfl, ?_⟩
            walk_at "s"
            refine ⟨A, M, arcs rs ws, fs, i, fw, rfl, hA6.same sm7, sm7 _ _ hM6, hfl, hi, ?_⟩
            refine ⟨_, hD7, sz_less (by rw [List.length_map, List.length_take]; omega), same_mut sm7 hD, ?_⟩
            rw [upd_same, List.take_add_one, hs1, List.map_append]
            rfl
          · intro H7 hP
            obtain ⟨sm7, hD7⟩ := hP
            rw [hxst, List.take_length] at hD7
            have hzd : st.length ≤ 1000 := by omega
            walk_at "s"
            rename_i D2 hD2
            refine lc_list (xs := st.map fun s => roomV (arcs rs ws) (fn fs) s.1 s.2) (fun j H8 => Same H7 H8 ∧ ∃ ds : List Int, H8 D2 = some (.lst (ds.map V.int)) ∧ ds.length ≤ j ∧ (∀ s ∈ st.take j, ∀ d, roomV (arcs rs ws) (fn fs) s.1 s.2 = .int d → d ∈ ds) ∧ ∀ d ∈ ds, ∃ s ∈ st, roomV (arcs rs ws) (fn fs) s.1 s.2 = .int d) ?_ ?_ ?_ ?_
            · exact ⟨same_new hD2, [], upd_same, Nat.le_refl _, by simp, by simp⟩
            · intro j H8 hj hP
              exact SqL.of (hP.1 _ _ hD7)
            · intro j x H8 hj hP
              obtain ⟨sm8, ds, hD8, hdl, h1, h2⟩ := hP
              obtain ⟨s1, rfl, hs1⟩ := map_get hj
              have hjl := (List.getElem?_eq_some_iff.mp hs1).1
              have tk : st.take (j + 1) = st.take j ++ [s1] := by rw [List.take_add_one, hs1]; rfl
              rw [tk]
              have two : roomV (arcs rs ws) (fn fs) s1.1 s1.2 = .non ∨ ∃ d, roomV (arcs rs ws) (fn fs) s1.1 s1.2 = .int d := by
                unfold roomV
                split
                · cases (ar (arcs rs ws) s1.1).cap with
                  | none => exact .inl rfl
                  | some c => exact .inr ⟨_, rfl⟩
                · exact .inr ⟨_, rfl⟩
              rcases two with e | ⟨d, e⟩
              · rw [e]
                walk_at "s"
                · rename_i e2
                  exact absurd e2 (by simp)
                refine ⟨ds, hD8, by omega, fun s hs d hd => ?_, h2⟩
                rcases List.mem_append.mp hs with hs | hs
                · exact h1 s hs d hd
                · rw [List.mem_singleton] at hs
                  rw [hs, e] at hd
                  cases hd
              · rw [e]
                walk_at "s"
                · refine ⟨_, hD8, sz_less (by rw [List.length_map]; omega), same_mut sm8 hD2, ds ++ [d], ?_, by rw [List.length_append, List.length_singleton]; omega, fun s hs d2 hd => ?_, fun d2 hd => ?_⟩
                  · rw [upd_same, List.map_append]
                    rfl
                  · rcases List.mem_append.mp hs with hs | hs
                    · exact List.mem_append_left _ (h1 s hs d2 hd)
                    · rw [List.mem_singleton] at hs
                      rw [hs, e] at hd
                      injection hd with hd
                      rw [hd]
                      exact List.mem_append_right _ List.mem_cons_self
                  · rcases List.mem_append.mp hd with hd | hd
                    · exact h2 d2 hd
                    · rw [List.mem_singleton] at hd
                      exact ⟨s1, List.mem_of_getElem? hs1, by rw [hd]; exact e⟩
                · rename_i e2
                  exact absurd e2 (by simp)
            · intro H8 hP
              obtain ⟨sm8, ds, hD8, hdl, h1, h2⟩ := hP
              rw [List.length_map, List.take_length] at h1
              obtain ⟨s0, hs0, d0, e0⟩ := room_some (arcs_nx hW) hSe pth hTo
              have hd0 := h1 s0 hs0 d0 e0
              walk_at "s"
              refine ⟨List.length_pos_iff.mpr (fun z => by rw [z] at hd0; cases hd0), fun d hd least => ?_⟩
              obtain ⟨s1, hs1, e1⟩ := h2 d hd
              have dpos := room_pos (hpp s1 hs1).2 e1
              have rooms : ∀ s ∈ st, FL.Room (arcs rs ws) (fn fs) s.1 s.2 d := fun s hs => room_of fun e he => least e (h1 s hs e he)
              obtain ⟨F', V'⟩ := push_flow F pth (Int.le_of_lt dpos) rooms hST
              have sm68 := sm7.trans sm8
              have hl8 := sm68 _ _ hl6
              have hM8 := sm68 _ _ hM6
              have sm58 := sm6.trans sm68
              have hL8 := hL5.same sm58
              have nlM : l ≠ M := (ne_of_none hM5 nl).symm
              have smH8 := sm5.trans sm58
              walk_at "s"
              refine for_listQ (xs := xst) Q rfl (fun k σ H9 => ∃ (v8 v9 : Option V) (gs : List Int), σ = [some (.int (2 * rs.length + 2 : Nat)), some (.ref A), some (.int (SS rs : Nat)), some (.int (NF.TT rs : Nat)), some (.ref L), some (.ref M), some (.ref C), some (.ref l), v8, v9, some (.ref D), some (.int d), none] ∧ But M H8 H9 ∧ H9 M = some (.lst (gs.map V.int)) ∧ gs.length = (arcs rs ws).length ∧ fn gs = push d (st.take k) (fn fs)) ?_ ?_ ?_ ?_
              · exact ⟨_, _, fs, rfl, But.refl _ _, hM8, hfl, rfl⟩
              · intro k σ H9 hk hP
                obtain ⟨v8, v9, gs, rfl, but, _⟩ := hP
                exact SqL.of (but _ _ nlM hl8)
              · intro X1 X2 k x σ H9 hk hP hN
                obtain ⟨v8, v9, gs, rfl, but, hM9, hgl, hgs⟩ := hP
                obtain ⟨s2, hs2, t, rfl, ht⟩ := hEs.got hk
                obtain ⟨i, fw⟩ := s2
                have ht8 := sm68 _ _ ht
                have ht9 := but _ _ (ne_of ht8 hM8 (by intro z; cases z)) ht8
                obtain ⟨hi, _⟩ := hpp _ (List.mem_of_getElem? hs2)
                have hi : i < (arcs rs ws).length := hi
                have tk : st.take (k + 1) = st.take k ++ [(i, fw)] := by rw [List.take_add_one, hs2]; rfl
                have hat := fn_at (fs := gs) (i := i) (by omega)
                have hix : ixN (gs.map V.int).length (i : Int) = some i := Evl.ixN_nat (by rw [List.length_map]; omega)
                refine ⟨t, _, rfl, SqT.of ht9, rfl, ?_⟩
                cases fw
                · walk_at "s"
                  refine ⟨M, _, i, _, rfl, rfl, SqL.of hM9, by omega, hat, ?_⟩
                  refine ⟨V.int d, rfl, ?_⟩
                  refine ⟨_, _, rfl, rfl, ?_⟩
                  refine ⟨M, _, i, i, rfl, rfl, hM9, hix, ?_⟩
                  refine hN _ _ ⟨_, _, gs.set i (fn gs i - d), rfl, but.trans But.upd, by rw [upd_same, List.map_set], by rw [List.length_set]; exact hgl, ?_⟩
                  rw [tk, push_snoc, fn_set (by omega), hgs]
                  funext j
                  by_cases z : j = i
                  · subst z
                    rw [if_pos rfl, if_pos rfl]
                    rfl
                  · rw [if_neg z, if_neg z]
                · walk_at "s"
                  refine ⟨M, _, i, _, rfl, rfl, SqL.of hM9, by omega, hat, ?_⟩
                  refine ⟨V.int d, rfl, ?_⟩
                  refine ⟨_, _, rfl, rfl, ?_⟩
                  refine ⟨M, _, i, i, rfl, rfl, hM9, hix, ?_⟩
                  refine hN _ _ ⟨_, _, gs.set i (fn gs i + d), rfl, but.trans But.upd, by rw [upd_same, List.map_set], by rw [List.length_set]; exact hgl, ?_⟩
                  rw [tk, push_snoc, fn_set (by omega), hgs]
                  funext j
                  by_cases z : j = i
                  · subst z
                    rw [if_pos rfl, if_pos rfl]
                    rfl
                  · rw [if_neg z, if_neg z]
              · intro σ H9 hP
                obtain ⟨v8, v9, gs, rfl, but, hM9, hgl, hgs⟩ := hP
                rw [hxst, List.take_length] at hgs
                walk_at "s"
                rename_i p3 hp3
                have sm9 := same_mut (o := .lst (gs.map V.int)) smH8 nM
                have smH9 : Same H H9 := fun b o e => but b o (ne_of_none e nM) (smH8 b o e)
                have s10 := same_new (o := .lst [.int (SS rs : Nat)]) hp3
                have hLw9 := hLw5.same ((But.of sm58).trans but).hid
                have hLw10 := hLw9.same (But.of s10).hid
                rw [← hgs] at F' V'
                refine ⟨L, A, M, p3, arcs rs ws, gs, SS rs, 2 * rs.length + 2, rfl, hLw10.same wo_same, hA.same (smH9.trans s10), s10 _ _ hM9, hgl, upd_same, hSN, by omega, aok, fun C' H11 kvs' qs' sm11 nC' hC' => ?_⟩
                have s911 := s10.trans sm11
                have vb := value_le hW hw F'
                rw [V'] at vb
                refine ⟨m - d.toNat, by omega, C', _, _, _, _, _, gs, kvs', qs', rfl, smH9.trans s911, hLw9.same (But.of s911).hid, s911 _ _ hM9, hgl, F', hC', (ne_of_none hM9 (s10.free nC')).symm, ?_⟩
                rw [V']
                omega
        · rename_i e
          exact absurd rfl e
end
end K15W
set_option Elab.async false
set_option linter.all false
set_option maxRecDepth 100000
set_option maxHeartbeats 4000000
namespace K15W
open PySem PySem.Spec PyProof.Rows L2 TL LW NT FL NF
local macro_rules | `(tactic| walk_at "ne") => `(tactic| first
  | (with_reducible assumption)
  | exact Ne.symm (by assumption)
  | (with_reducible exact ne_of_none (by assumption) (by assumption))
  | (with_reducible exact (ne_of_none (by assumption) (by assumption)).symm)
  | (apply ne_of_none; (case h' => assumption); (case h => walk_at "hp"))
  | (apply Ne.symm; apply ne_of_none; (case h' => assumption); (case h => walk_at "hp")))
local macro_rules | `(tactic| walk_at "hp") => `(tactic| first
  | (with_reducible assumption)
  | exact upd_same
  | (with_reducible exact hp_new (by assumption) (by assumption))
  | (apply hp_new; (case n => assumption); (case h => walk_at "hp"))
  | (refine (upd_ne ?ne).trans ?hp; (case ne => walk_at "ne"); (case hp => walk_at "hp")))
local macro_rules | `(tactic| walk_at "sq") => `(tactic| first
  | ((with_reducible show SqL _ _ _ _); assumption)
  | ((with_reducible show SqT _ _ _ _); assumption)
  | exact SqL.of (by assumption)
  | exact SqL.of upd_same
  | exact SqT.of (by assumption)
  | exact SqT.of upd_same
  | (apply SqL.of; walk_at "hp")
  | (apply SqT.of; walk_at "hp"))
local macro_rules | `(tactic| walk_at "len") => `(tactic| first
  | (with_reducible assumption)
  | exact sz_small (by omega)
  | exact sz_less (by omega)
  | decide
  | (refine sz_small ?_; simp only [List.length_append, List.length_cons, List.length_nil, List.length_map, str_len]; omega)
  | (refine sz_less ?_; simp only [List.length_append, List.length_cons, List.length_nil, List.length_map, str_len]; omega))
local macro_rules | `(tactic| walk_at "cond") => `(tactic| first
  | omega
  | (split <;> omega)
  | (with_reducible assumption)
  | exact .inl ⟨by omega, by omega⟩
  | exact .inr ⟨by omega, by omega⟩
  | exact ⟨by omega, by omega⟩
  | (show (0 : Int) < _; omega)
  | (show (0 : Int) < _; decide +kernel)
  | exact ⟨by omega, by omega, by decide⟩
  | walk_at "len"
  | rfl
  | (show CMulW _ _; unfold CMulW; decide +kernel)
  | exact ⟨_, rfl⟩
  | decide +kernel
  | exact ⟨_, by walk_at "sq"⟩
  | exact .inl ⟨rfl, _, by walk_at "sq"⟩)
local macro_rules | `(tactic| walk_at "at") => `(tactic| first
  | (with_reducible assumption)
  | exact atI_nat (by assumption)
  | exact atI_last _ _
  | exact atI_nat (j := 0) rfl
  | exact atI_nat (j := 1) rfl
  | exact atI_nat (j := 2) rfl
  | exact atI_nat (j := 3) rfl
  | exact atI_nat (j := 4) rfl)
local macro_rules | `(tactic| walk_at "ix") => `(tactic| first
  | (with_reducible assumption)
  | (with_reducible exact ixN_0 (by simp; done))
  | (with_reducible exact ixN_1 (by simp; done))
  | (with_reducible exact ixN_2 (by simp; done))
  | (with_reducible exact Evl.ixN_nat (by assumption))
  | (with_reducible exact Evl.ixN_nat (by omega)))
local macro_rules | `(tactic| walk_at "v") => `(tactic| first
  | exact val_var rfl
  | (with_reducible exact val_c)
  | (with_reducible apply val_orV; (case ha => walk_at "v"); (case hb => walk_at "v"))
  | (with_reducible apply val_andV; (case ha => walk_at "v"); (case hb => walk_at "v"))
  | (with_reducible apply val_notV; walk_at "v")
  | (with_reducible apply val_ifS; (case h => walk_at "w"); (case ha => walk_at "v"); (case hb => walk_at "v"))
  | (with_reducible apply val_ifI; (case h => walk_at "w"); (case ha => walk_at "v"); (case hb => walk_at "v"))
  | (with_reducible apply val_ifB; (case h => walk_at "w"); (case ha => walk_at "v"); (case hb => walk_at "v"))
  | (with_reducible apply val_eqS; (case ha => walk_at "v"); (case hb => walk_at "v"))
  | (with_reducible apply val_eqI; (case ha => walk_at "v"); (case hb => walk_at "v"))
  | (with_reducible apply val_neS; (case ha => walk_at "v"); (case hb => walk_at "v"))
  | (with_reducible apply val_neI; (case ha => walk_at "v"); (case hb => walk_at "v"))
  | (with_reducible apply val_op; (case ha => walk_at "v"); (case hb => walk_at "v"); (case hr => exact fun Q q => ⟨_, _, rfl, rfl, q⟩)))
local macro_rules | `(tactic| walk_at "w") => `(tactic| first
  | (with_reducible apply ans_or2; (case h1 => walk_at "w"); (case h2 => walk_at "w"))
  | (with_reducible apply ans_and2; (case h1 => walk_at "w"); (case h2 => walk_at "w"))
  | (with_reducible apply ans_not; walk_at "w")
  | (with_reducible apply ans_test; walk_at "v")
  | (with_reducible apply ans_val; walk_at "v"))
local macro_rules | `(tactic| walk_at "s2") => `(tactic| first
  | refine ⟨_, rfl, ?_⟩
  | refine ⟨_, _, rfl, rfl, ?_⟩
  | (refine And.intro ?cc ?_; (case cc => walk_at "cond"))
  | refine ⟨_, _, _, _, rfl, rfl, by walk_at "sq", by walk_at "at", ?_⟩
  | refine ⟨_, _, _, _, rfl, rfl, by walk_at "hp", by walk_at "ix", ?_⟩
  | refine ⟨_, _, _, _, rfl, rfl, by walk_at "hp", by walk_at "hp", by walk_at "len", ?_⟩
  | refine ⟨_, _, _, rfl, rfl, by walk_at "len", by walk_at "at", ?_⟩
  | refine ⟨_, _, _, rfl, rfl, by walk_at "hp", by walk_at "len", ?_⟩
  | refine ⟨_, _, _, rfl, rfl, by walk_at "hp", by walk_at "at", ?_⟩
  | refine ⟨_, _, rfl, rfl, by walk_at "sq", ?_⟩
  | refine ⟨_, _, rfl, rfl, by walk_at "len", ?_⟩
  | refine ⟨_, _, rfl, by walk_at "sq", ?_⟩
  | refine ⟨_, _, rfl, .inl (by walk_at "sq"), ?_⟩
  | refine ⟨_, _, rfl, .inr (by walk_at "sq"), ?_⟩
  | refine ⟨_, _, rfl, by walk_at "sq", rfl, ?_⟩
  | refine ⟨_, fun _ _ h => h, ?_⟩
  | refine .inl ⟨_, rfl, ?_⟩
  | refine ⟨_, _, .type "int", .type _, true, rfl, ClsV.ty _, .base (.int _), kit_ty (by decide +kernel), ?_⟩
  | refine ⟨_, _, .type "int", .type _, false, rfl, ClsV.ty _, .base (.int _), kit_ty (by decide +kernel), ?_⟩
  | refine ⟨_, _, .type "bool", .type _, true, rfl, ClsV.ty _, .base (.bl _), kit_ty (by decide +kernel), ?_⟩
  | refine ⟨_, _, .type "bool", .type _, false, rfl, ClsV.ty _, .base (.bl _), kit_ty (by decide +kernel), ?_⟩
  | refine ⟨_, _, .type "str", .type _, true, rfl, ClsV.ty _, .base (.str _), kit_ty (by decide +kernel), ?_⟩
  | refine ⟨_, _, .type "str", .type _, false, rfl, ClsV.ty _, .base (.str _), kit_ty (by decide +kernel), ?_⟩
  | refine ⟨_, _, .type "NoneType", .type _, true, rfl, ClsV.ty _, .base (.non), kit_ty (by decide +kernel), ?_⟩
  | refine ⟨_, _, .type "NoneType", .type _, false, rfl, ClsV.ty _, .base (.non), kit_ty (by decide +kernel), ?_⟩
  | refine ⟨_, _, .type "list", .type _, true, rfl, ClsV.ty _, .base (.lst (by walk_at "hp")), kit_ty (by decide +kernel), ?_⟩
  | refine ⟨_, _, .type "list", .type _, false, rfl, ClsV.ty _, .base (.lst (by walk_at "hp")), kit_ty (by decide +kernel), ?_⟩
  | refine ⟨_, _, .type "tuple", .type _, true, rfl, ClsV.ty _, .base (.tup (by walk_at "hp")), kit_ty (by decide +kernel), ?_⟩
  | refine ⟨_, _, .type "tuple", .type _, false, rfl, ClsV.ty _, .base (.tup (by walk_at "hp")), kit_ty (by decide +kernel), ?_⟩
  | fail)
local macro_rules | `(tactic| walk_at "s1") => `(tactic| first
  | (with_reducible refine go_gcons ?_)
  | (with_reducible refine go_gnil ?_)
  | (with_reducible refine go_seqM ?_)
  | (with_reducible refine go_nextM ?_)
  | (with_reducible refine go_contM ?_)
  | (with_reducible refine go_brkM ?_)
  | (with_reducible refine go_retM ?_)
  | (with_reducible refine go_asgM ?_)
  | (with_reducible refine go_test ?_)
  | (with_reducible refine go_rI0 ?_)
  | (with_reducible refine go_op ?_)
  | (with_reducible refine go_var rfl ?_)
  | ((with_reducible show tFor (iRng1 _) _ _ _ _ _); refine (show iRng1 _ _ _ _ from ?_))
  | (with_reducible refine go_rng1 ?_)
  | (with_reducible refine go_c ?_)
  | (with_reducible apply go_pick; (case hs => walk_at "hp"); (case h0 => walk_at "cond"); (case h1 => walk_at "cond"); (case' q => intro k a b c h0 h1))
  | (with_reducible refine go_nil ?_)
  | (with_reducible refine go_cons ?_)
  | (with_reducible refine go_call ?_)
  | (with_reducible refine go_cb ?_)
  | (with_reducible refine go_next ?_)
  | (with_reducible refine go_cont ?_)
  | (with_reducible refine go_ret ?_)
  | (with_reducible refine go_name ?_)
  | (with_reducible refine go_seq ?_)
  | (with_reducible refine go_asg ?_)
  | (with_reducible apply go_or; (case h => walk_at "v"))
  | (with_reducible apply go_and; (case h => walk_at "v"))
  | (with_reducible apply go_andL; (case h => walk_at "v"); (case' h1 => intro e); (case' h2 => intro e))
  | (with_reducible apply go_orL; (case h => walk_at "v"); (case' h1 => intro e); (case' h2 => intro e))
  | (with_reducible apply go_ifE; (case h => walk_at "v"))
  | (with_reducible apply go_ifOr; (case h => walk_at "w"); (case' h1 => intro e); (case' h2 => intro e))
  | (with_reducible apply go_ifAnd; (case h => walk_at "w"); (case' h1 => intro e); (case' h2 => intro e))
  | (with_reducible refine go_min ?_)
  | (with_reducible refine iteT ?_)
  | (with_reducible refine iteF ?_)
  | (with_reducible refine iteD (fun _ => ?_) (fun e => absurd rfl e))
  | (with_reducible refine iteS (fun e => ?_) (fun e => ?_))
  | (with_reducible refine iteI (fun e => ?_) (fun e => ?_))
  | (with_reducible refine iteSn (fun e => ?_) (fun e => ?_))
  | (with_reducible refine iteIn (fun e => ?_) (fun e => ?_))
  | (with_reducible refine iteD (fun e => ?_) (fun e => ?_))
  | (with_reducible refine iteDn (fun e => ?_) (fun e => ?_))
  | (with_reducible refine ite2 (fun e => ?_) (fun e => ?_))
  | (refine fun (p : Addr) (hp : _ = none) => ?_)
  | ((conv => whnf); walk_at "s2")
  | fail)
local macro_rules | `(tactic| walk_at "s") => `(tactic| repeat' (first
  | (with_reducible refine go_gcons ?_)
  | (with_reducible refine go_gnil ?_)
  | (with_reducible refine go_seqM ?_)
  | (with_reducible refine go_nextM ?_)
  | (with_reducible refine go_contM ?_)
  | (with_reducible refine go_brkM ?_)
  | (with_reducible refine go_retM ?_)
  | (with_reducible refine go_asgM ?_)
  | (with_reducible refine go_test ?_)
  | (with_reducible refine go_rI0 ?_)
  | (with_reducible refine go_op ?_)
  | (with_reducible refine go_var rfl ?_)
  | ((with_reducible show tFor (iRng1 _) _ _ _ _ _); refine (show iRng1 _ _ _ _ from ?_))
  | (with_reducible refine go_rng1 ?_)
  | (with_reducible refine go_c ?_)
  | (with_reducible apply go_pick; (case hs => walk_at "hp"); (case h0 => walk_at "cond"); (case h1 => walk_at "cond"); (case' q => intro k a b c h0 h1))
  | (with_reducible refine go_nil ?_)
  | (with_reducible refine go_cons ?_)
  | (with_reducible refine go_call ?_)
  | (with_reducible refine go_cb ?_)
  | (with_reducible refine go_next ?_)
  | (with_reducible refine go_cont ?_)
  | (with_reducible refine go_ret ?_)
  | (with_reducible refine go_name ?_)
  | (with_reducible refine go_seq ?_)
  | (with_reducible refine go_asg ?_)
  | (with_reducible apply go_or; (case h => walk_at "v"))
  | (with_reducible apply go_and; (case h => walk_at "v"))
  | (with_reducible apply go_andL; (case h => walk_at "v"); (case' h1 => intro e); (case' h2 => intro e))
  | (with_reducible apply go_orL; (case h => walk_at "v"); (case' h1 => intro e); (case' h2 => intro e))
  | (with_reducible apply go_ifE; (case h => walk_at "v"))
  | (with_reducible apply go_ifOr; (case h => walk_at "w"); (case' h1 => intro e); (case' h2 => intro e))
  | (with_reducible apply go_ifAnd; (case h => walk_at "w"); (case' h1 => intro e); (case' h2 => intro e))
  | (with_reducible refine go_min ?_)
  | (with_reducible refine iteT ?_)
  | (with_reducible refine iteF ?_)
  | (with_reducible refine iteD (fun _ => ?_) (fun e => absurd rfl e))
  | (with_reducible refine iteS (fun e => ?_) (fun e => ?_))
  | (with_reducible refine iteI (fun e => ?_) (fun e => ?_))
  | (with_reducible refine iteSn (fun e => ?_) (fun e => ?_))
  | (with_reducible refine iteIn (fun e => ?_) (fun e => ?_))
  | (with_reducible refine iteD (fun e => ?_) (fun e => ?_))
  | (with_reducible refine iteDn (fun e => ?_) (fun e => ?_))
  | (with_reducible refine ite2 (fun e => ?_) (fun e => ?_))
  | (refine fun (p : Addr) (hp : _ = none) => ?_)
  | ((conv => whnf); walk_at "s2")
  | fail))

section
variable {P : Program} {w : World} {K : PySem.W.Frag} {mg : Str → Option Value} {base : Heap}
/-! ### the living nodes -/
/-- a list or a tuple of numbers -/
def Seq (H : Hp) (k : Addr) (ks : List Int) : Prop := H k = some (.lst (ks.map V.int)) ∨ H k = some (.tup (ks.map V.int))
theorem Seq.same {H H' : Hp} (e : Same H H') {k : Addr} {ks : List Int} : Seq H k ks → Seq H' k ks
  | .inl h => .inl (e _ _ h)
  | .inr h => .inr (e _ _ h)
def livV (rs : List Rw) (ws : List Int) : List V := (List.range rs.length).map fun (n : Nat) => V.bl (liv rs ws (n : Int))
def spLive : Sp := fun vs H Q _ => ∃ (a k : Addr) (rs : List Rw) (ws : List Int), vs = [.ref a, .ref k] ∧ RowsL H a rs ∧ WF rs ∧ rs.length ≤ 20 ∧ Seq H k ws ∧ InR rs ws ∧ ∀ l H', Same H H' → H l = none → H' l = some (.lst (livV rs ws)) → Q (.ref l) H'
theorem ok_live (T : Top w K mg) : FnOk P w K mg base CX0 1 T.a_living T.d_living ["rows", "wanted"] spLive := by
  refine T.F_living.ok sc_living (fun vs H Q E h => ?_) (fun cdv A outer s H vs Q E hr h => ?_)
  · obtain ⟨a, k, rs, ws, rfl, _⟩ := h
    rfl
  · obtain ⟨a, k, rs, ws, rfl, ⟨xs, hX, hE⟩, hW, hn, hk, hw, q⟩ := h
    have hXl := hE.len
    rcases hk with hk | hk
    · refine ⟨_, (pss_cons (ps_set (i := 2) sc_living.nd rfl (.inr rfl) (pe_op op_rep (pe_lst (pa_cons pe_bl pa_nil)) (pe_callB call_len_seq (by rfl) T.m_len (by decide +kernel) (pa_cons (pv 0) pa_nil))))
    (pss_cons (ps_for PassesOwn.never rfl (pi_list (pv 1)) (pg_name (i := 3) sc_living.nd rfl (.inl rfl))
    (pss_one (ps_asg pe_bl (pg_sub (pv 2) (pv 3) set_list))))
    (pss_cons (ps_for PassesOwn.never rfl (pi_revR (by rfl) T.m_reversed (prg_1 (by rfl) T.m_range (pe_callB call_len_seq (by rfl) T.m_len (by decide +kernel) (pa_cons (pv 0) pa_nil)))) (pg_name (i := 3) sc_living.nd rfl (.inl rfl))
    (pss_one (ps_if (pt_val (pe_ix ix_list (pv 2) (pv 3) (fun _ _ => rfl)))
    (pss_one (ps_for PassesOwn.never rfl (pi_list (pe_ix ix_tup (pe_ix ix_list (pv 0) (pv 3) (fun _ _ => rfl)) pe_int (fun _ _ => rfl))) (pg_name (i := 4) sc_living.nd rfl (.inl rfl))
    (pss_one (ps_asg pe_bl (pg_sub (pv 2) (pv 4) set_list)))))
    pss_nil)))
    (pss_cons (ps_set (i := 5) sc_living.nd rfl (.inr rfl) (pe_lst pa_nil))
    (pss_cons (ps_for PassesOwn.never rfl (pi_list (pv 0)) (pg_tup rfl (pgs_cons (pg_name (i := 6) sc_living.nd rfl (.inl rfl)) (pgs_cons (pg_name (i := 7) sc_living.nd rfl (.inl rfl)) (pgs_cons (pg_name (i := 8) sc_living.nd rfl (.inl rfl)) pgs_nil))))
    (pss_one (ps_expr (pe_bm PySem.F.plainAttrs_list PySem.F.slot_list_append PySem.F.type_list_append mt_append (pv 5) (pa_cons (pe_or (pv 8) (pe_one (pe_callB (cr_any rfl) (by rfl) T.m_any (by decide +kernel) (pa_cons (pe_lc (own := [("operand", 4)]) rfl sc_living.nd (pi_list (pv 7)) (blkOk_by (own := [("operand", 4)]) (N := ["rows", "wanted", "above", "node", "operand", "fed", "size", "operands", "source"]) (sc := defScope s_living) (by decide +kernel)) (fun _ _ _ _ _ => (pg_name (i := 4) sc_living.nd rfl (.inl rfl))) (fun _ _ _ _ _ => pts_nil) (fun _ _ _ _ _ => (pe_ix (ix_listB (K := K) rfl) (pv 5) (pv 4) (fun _ _ => rfl)))) pa_nil)))) pa_nil)))))
    (pss_one (ps_ret (pe_lc (own := [("node", 3)]) rfl sc_living.nd (pi_range1 rfl T.m_range (pa_cons (pe_callB call_len_seq (by rfl) T.m_len (by decide +kernel) (pa_cons (pv 0) pa_nil)) pa_nil)) (blkOk_by (own := [("node", 3)]) (N := ["rows", "wanted", "above", "node", "operand", "fed", "size", "operands", "source"]) (sc := defScope s_living) (by decide +kernel)) (fun _ _ _ _ _ => (pg_name (i := 3) sc_living.nd rfl (.inl rfl))) (fun _ _ _ _ _ => pts_nil) (fun _ _ _ _ _ => (pe_and (pe_ix (ix_listB (K := K) rfl) (pv 2) (pv 3) (fun _ _ => rfl)) (pe_one (pe_ix (ix_listB (K := K) rfl) (pv 5) (pv 3) (fun _ _ => rfl))))))))))))), ?_⟩
      walk_at "s"
      rename_i p hp
      have eA : (List.replicate ((xs.length : Int)).toNat [V.bl false]).flatten = (List.replicate rs.length false).map V.bl := by
        rw [Int.toNat_natCast, hXl, List.map_replicate]
        exact List.flatten_replicate_singleton
      refine ⟨p, (xs.length : Int), [.bl false], rfl, rfl, upd_same, by omega, by omega, sz_small (by show 1 * _ ≤ _; omega), fun A1 hA1 => ?_⟩
      rw [eA]
      have sm1 := (same_new (o := .lst [.bl false]) hp).trans (same_new (o := .lst ((List.replicate rs.length false).map V.bl)) hA1)
      have nA : H A1 = none := (same_new (o := .lst [.bl false]) hp).free hA1
      have hA2 : upd (upd H p (.lst [.bl false])) A1 (.lst ((List.replicate rs.length false).map V.bl)) A1 = some (.lst ((List.replicate rs.length false).map V.bl)) := upd_same
      generalize upd (upd H p (.lst [.bl false])) A1 (.lst ((List.replicate rs.length false).map V.bl)) = H1 at sm1 hA2 ⊢
      have nkA : k ≠ A1 := ne_of_none hk nA
      have naA : a ≠ A1 := ne_of_none hX nA
      have hk1 := sm1 _ _ hk
      walk_at "s"
      refine for_listQ (xs := ws.map V.int) Q rfl (fun i σ H2 => ∃ (v3 : Option V), σ = [some (.ref a), some (.ref k), some (.ref A1), v3, none, none, none, none, none] ∧ Same H H2 ∧ H2 A1 = some (.lst ((sets (List.replicate rs.length false) (ws.take i)).map V.bl))) ?_ ?_ ?_ ?_
      · exact ⟨_, rfl, sm1, hA2⟩
      · intro i σ H2 hi hP
        obtain ⟨v3, rfl, sm, _⟩ := hP
        first | exact SqL.of (sm _ _ hk) | exact SqT.of (sm _ _ hk)
      · intro N X i x σ H2 hi hP hN
        obtain ⟨v3, rfl, sm, hA3⟩ := hP
        obtain ⟨z, rfl, hz⟩ := map_get hi
        obtain ⟨z0, z1⟩ := hw z (List.mem_of_getElem? hz)
        walk_at "s"
        refine ⟨A1, _, z, z.toNat, rfl, rfl, hA3, ixN_flag z0 (by rw [List.length_map, sets_len, List.length_replicate]; exact z1), ?_⟩
        refine hN _ _ ⟨_, rfl, same_mut sm nA, ?_⟩
        rw [upd_same, take_snoc hz]
        have e2 : sets (List.replicate rs.length false) (ws.take i ++ [z]) = (sets (List.replicate rs.length false) (ws.take i)).set z.toNat true := by
          unfold sets
          rw [List.foldl_append]
          rfl
        rw [e2, List.map_set]
      · intro σ H2 hP
        obtain ⟨v3, rfl, sm, hA3⟩ := hP
        rw [List.length_map, List.take_length] at hA3
        have hX2 := sm _ _ hX
        have st0 : dn rs rs.length (sets (List.replicate rs.length false) ws) = abv rs ws := rfl
        walk_at "s"
        refine for_rangeCQ (c := -1) (n := ((xs.length : Int) - 0).toNat) Q rfl (fun i σ H3 => ∃ (v3 v4 : Option V) (bs : List Bool), σ = [some (.ref a), some (.ref k), some (.ref A1), v3, v4, none, none, none, none] ∧ Same H H3 ∧ H3 A1 = some (.lst (bs.map V.bl)) ∧ bs.length = rs.length ∧ dn rs (rs.length - i) bs = abv rs ws) ?_ ?_ ?_
        · exact ⟨_, _, _, rfl, sm, hA3, by rw [sets_len, List.length_replicate], st0⟩
        · intro N X i σ H3 hi hP hN
          obtain ⟨v3, v4, bs, rfl, sm3, hA4, hbl, hdn⟩ := hP
          have hil : i < rs.length := by omega
          obtain ⟨n, hn2⟩ : ∃ n : Nat, n + i + 1 = rs.length := ⟨rs.length - i - 1, by omega⟩
          have ev : (0 : Int) + ((((xs.length : Int) - 0).toNat : Nat) : Int) - 1 + ((i : Nat) : Int) * -1 = (n : Int) := by omega
          rw [ev]
          have er : rs[n]? = some rs[n] := List.getElem?_eq_getElem (by omega)
          obtain ⟨u, eu, t, o, rfl, ht, ho⟩ := hE.get er
          have hX3 := sm3 _ _ hX
          have ht3 := sm3 _ _ ht
          have ho3 : H3 o = some (.lst (rs[n].ops.map V.int)) := sm3 _ _ ho
          have hok := hW n _ er
          have hat := atI_nat eu
          rw [show rs.length - i = n + 1 from by omega, dn_succ] at hdn
          unfold step1 at hdn
          rw [er] at hdn
          have hdn : dn rs n (if flag bs (n : Int) = true then sets bs rs[n].ops else bs) = abv rs ws := hdn
          have eni : rs.length - (i + 1) = n := by omega
          have ho0 : H o = some (.lst (rs[n].ops.map V.int)) := ho
          generalize rs[n] = r at ht3 ho0 ho3 hok hdn
          walk_at "s"
          refine ⟨_, _, _, _, rfl, rfl, SqL.of hA4, at_flag (f := bs) (o := (n : Int)) (by omega) (by omega), ?_⟩
          walk_at "s"
          · rename_i e
            rw [if_pos e] at hdn
            refine for_listQ (xs := r.ops.map V.int) Q rfl (fun j σ H4 => ∃ (v4 : Option V), σ = [some (.ref a), some (.ref k), some (.ref A1), some (.int (n : Int)), v4, none, none, none, none] ∧ Same H H4 ∧ H4 A1 = some (.lst ((sets bs (r.ops.take j)).map V.bl))) ?_ ?_ ?_ ?_
            · exact ⟨_, rfl, sm3, hA4⟩
            · intro j σ H4 hj hP
              obtain ⟨v4, rfl, sm4, _⟩ := hP
              exact SqL.of (sm4 _ _ ho0)
            · intro N2 X2 j x σ H4 hj hP hN3
              obtain ⟨v4, rfl, sm4, hA5⟩ := hP
              obtain ⟨z, rfl, hz⟩ := map_get hj
              obtain ⟨z0, z1⟩ := hok.2.1 z (List.mem_of_getElem? hz)
              walk_at "s"
              refine ⟨A1, _, z, z.toNat, rfl, rfl, hA5, ixN_flag z0 (by rw [List.length_map, sets_len, hbl]; omega), ?_⟩
              refine hN3 _ _ ⟨_, rfl, same_mut sm4 nA, ?_⟩
              rw [upd_same, take_snoc hz]
              have e2 : sets bs (r.ops.take j ++ [z]) = (sets bs (r.ops.take j)).set z.toNat true := by
                unfold sets
                rw [List.foldl_append]
                rfl
              rw [e2, List.map_set]
            · intro σ H4 hP
              obtain ⟨v4, rfl, sm4, hA5⟩ := hP
              rw [List.length_map, List.take_length] at hA5
              exact hN _ _ ⟨_, _, sets bs r.ops, rfl, sm4, hA5, by rw [sets_len, hbl], by rw [eni]; exact hdn⟩
          · rename_i e
            rw [if_neg e] at hdn
            exact hN _ _ ⟨_, _, bs, rfl, sm3, hA4, hbl, by rw [eni]; exact hdn⟩
        · intro σ H3 hP
          obtain ⟨v3, v4, bs, rfl, sm3, hA4, hbl, hdn⟩ := hP
          rw [show rs.length - ((xs.length : Int) - 0).toNat = 0 from by omega] at hdn
          have hdn : bs = abv rs ws := hdn
          subst hdn
          have hX3 := sm3 _ _ hX
          walk_at "s"
          rename_i F hF
          have nF : H F = none := sm3.free hF
          have nAF : A1 ≠ F := ne_of_none hA4 hF
          refine for_listQ (xs := xs) Q rfl (fun j σ H4 => ∃ (v3 v4 v6 v7 v8 : Option V), σ = [some (.ref a), some (.ref k), some (.ref A1), v3, v4, some (.ref F), v6, v7, v8] ∧ Same H H4 ∧ H4 A1 = some (.lst ((abv rs ws).map V.bl)) ∧ H4 F = some (.lst ((List.range j).map fun (n : Nat) => V.bl (!bar rs (n : Int))))) ?_ ?_ ?_ ?_
          · exact ⟨_, _, _, _, _, rfl, sm3.trans (same_new hF), hp_new hA4 hF, upd_same⟩
          · intro j σ H4 hj hP
            obtain ⟨v3, v4, v6, v7, v8, rfl, sm4, _⟩ := hP
            exact SqL.of (sm4 _ _ hX)
          · intro N X j x σ H4 hj hP hN
            obtain ⟨v3, v4, v6, v7, v8, rfl, sm4, hA5, hF4⟩ := hP
            obtain ⟨r, er, t, o, rfl, ht, ho⟩ := hE.got hj
            have hjl := (List.getElem?_eq_some_iff.mp er).1
            have ht4 := sm4 _ _ ht
            have ho0 : H o = some (.lst (r.ops.map V.int)) := ho
            have ho4 := sm4 _ _ ho0
            have hok := hW j r er
            have eb := bar_at hW er
            have hfz : ((List.range j).map fun (n : Nat) => V.bl (!bar rs (n : Int))).length < sizeLine := sz_less (by rw [List.length_map, List.length_range]; omega)
            refine ⟨t, _, rfl, SqT.of ht4, rfl, ?_⟩
            have grow : ∀ H5 : Hp, ∀ b, Same H4 H5 → b = (!bar rs (j : Int)) → Same H (upd H5 F (.lst (((List.range j).map fun (n : Nat) => V.bl (!bar rs (n : Int))) ++ [.bl b]))) ∧ upd H5 F (.lst (((List.range j).map fun (n : Nat) => V.bl (!bar rs (n : Int))) ++ [.bl b])) A1 = some (.lst ((abv rs ws).map V.bl)) ∧ upd H5 F (.lst (((List.range j).map fun (n : Nat) => V.bl (!bar rs (n : Int))) ++ [.bl b])) F = some (.lst ((List.range (j + 1)).map fun (n : Nat) => V.bl (!bar rs (n : Int)))) := fun H5 b s5 eb2 =>
              ⟨same_mut (sm4.trans s5) nF, (upd_ne nAF).trans (s5 _ _ hA5), by rw [upd_same, List.range_succ, List.map_append, eb2]; rfl⟩
            walk_at "s"
            · rename_i es B hB
              refine lc_list (xs := r.ops.map V.int) (fun m H5 => Same H4 H5 ∧ H5 B = some (.lst (((r.ops.take m).map fun o => !bar rs o).map V.bl))) ?_ ?_ ?_ ?_
              · exact ⟨same_new hB, upd_same⟩
              · intro m H5 hm hP
                exact SqL.of (hP.1 _ _ ho4)
              · intro m x H5 hm hP
                obtain ⟨sm5, hB5⟩ := hP
                obtain ⟨z, rfl, hz⟩ := map_get hm
                obtain ⟨z0, z1⟩ := hok.2.1 z (List.mem_of_getElem? hz)
                have hml := (List.getElem?_eq_some_iff.mp hz).1
                have hF5 := sm5 _ _ hF4
                obtain ⟨y, rfl⟩ : ∃ y : Nat, z = (y : Int) := ⟨z.toNat, by omega⟩
                have hatF : atI ((List.range j).map fun (n : Nat) => V.bl (!bar rs (n : Int))) (y : Int) = some (.bl (!bar rs (y : Int))) := atI_nat (by rw [List.getElem?_map, List.getElem?_range (by omega)]; rfl)
                have h4 := hok.2.2.2
                walk_at "s"
                refine ⟨_, hB5, sz_less (by rw [List.length_map, List.length_map, List.length_take]; omega), same_mut sm5 hB, ?_⟩
                rw [upd_same, take_snoc hz, List.map_append, List.map_append]
                rfl
              · intro H5 hP
                obtain ⟨sm5, hB5⟩ := hP
                rw [List.length_map, List.take_length] at hB5
                have hF5 := sm5 _ _ hF4
                walk_at "s"
                refine hN _ _ ⟨_, _, _, _, _, rfl, grow H5 _ sm5 ?_⟩
                rw [eb, es, List.any_map]
                show r.ops.any (fun o => !bar rs o) = _
                rw [any_not]
                rfl
            · rename_i es
              exact hN _ _ ⟨_, _, _, _, _, rfl, grow H4 true (Same.refl _) (by rw [eb, es]; rfl)⟩
          · intro σ H4 hP
            obtain ⟨v3, v4, v6, v7, v8, rfl, sm4, hA5, hF4⟩ := hP
            have hX4 := sm4 _ _ hX
            walk_at "s"
            rename_i D hD
            refine lc_range (lo := 0) (n := ((xs.length : Int)).toNat) (fun j H5 => Same H4 H5 ∧ H5 D = some (.lst ((List.range j).map fun (n : Nat) => V.bl (liv rs ws (n : Int))))) ?_ ?_ ?_
            · exact ⟨same_new hD, upd_same⟩
            · intro j H5 hj hP
              obtain ⟨sm5, hD5⟩ := hP
              have hA6 := sm5 _ _ hA5
              have hF5 := sm5 _ _ hF4
              simp only [Int.zero_add]
              have hjl : j < rs.length := by omega
              have hatF : atI ((List.range xs.length).map fun (n : Nat) => V.bl (!bar rs (n : Int))) (j : Int) = some (.bl (!bar rs (j : Int))) := atI_nat (by rw [List.getElem?_map, List.getElem?_range (by omega)]; rfl)
              have hatA : atI ((abv rs ws).map V.bl) (j : Int) = some (.bl (flag (abv rs ws) (j : Int))) := at_flag (by omega) (by rw [abv_len]; omega)
              have fin : H5 D = some (.lst ((List.range j).map fun (n : Nat) => V.bl (liv rs ws (n : Int)))) → ∀ b, b = liv rs ws (j : Int) → ∃ acc, H5 D = some (.lst acc) ∧ acc.length < sizeLine ∧ Same H4 (upd H5 D (.lst (acc ++ [V.bl b]))) ∧ upd H5 D (.lst (acc ++ [V.bl b])) D = some (.lst ((List.range (j + 1)).map fun (n : Nat) => V.bl (liv rs ws (n : Int)))) := fun h b eb => ⟨_, h, sz_less (by rw [List.length_map, List.length_range]; omega), same_mut sm5 hD, by rw [upd_same, List.range_succ, List.map_append, eb]; rfl⟩
              walk_at "s"
              · rename_i e
                exact fin hD5 _ (by unfold liv; rw [e]; rfl)
              · rename_i e
                exact fin hD5 _ (by unfold liv; rw [show flag (abv rs ws) (j : Int) = false from by simpa using e]; rfl)
            · intro H5 hP
              obtain ⟨sm5, hD5⟩ := hP
              rw [Int.toNat_natCast, hXl] at hD5
              exact q D H5 (sm4.trans sm5) (sm4.free hD) hD5
    · refine ⟨_, (pss_cons (ps_set (i := 2) sc_living.nd rfl (.inr rfl) (pe_op op_rep (pe_lst (pa_cons pe_bl pa_nil)) (pe_callB call_len_seq (by rfl) T.m_len (by decide +kernel) (pa_cons (pv 0) pa_nil))))
    (pss_cons (ps_for PassesOwn.never rfl (pi_tup (pv 1)) (pg_name (i := 3) sc_living.nd rfl (.inl rfl))
    (pss_one (ps_asg pe_bl (pg_sub (pv 2) (pv 3) set_list))))
    (pss_cons (ps_for PassesOwn.never rfl (pi_revR (by rfl) T.m_reversed (prg_1 (by rfl) T.m_range (pe_callB call_len_seq (by rfl) T.m_len (by decide +kernel) (pa_cons (pv 0) pa_nil)))) (pg_name (i := 3) sc_living.nd rfl (.inl rfl))
    (pss_one (ps_if (pt_val (pe_ix ix_list (pv 2) (pv 3) (fun _ _ => rfl)))
    (pss_one (ps_for PassesOwn.never rfl (pi_list (pe_ix ix_tup (pe_ix ix_list (pv 0) (pv 3) (fun _ _ => rfl)) pe_int (fun _ _ => rfl))) (pg_name (i := 4) sc_living.nd rfl (.inl rfl))
    (pss_one (ps_asg pe_bl (pg_sub (pv 2) (pv 4) set_list)))))
    pss_nil)))
    (pss_cons (ps_set (i := 5) sc_living.nd rfl (.inr rfl) (pe_lst pa_nil))
    (pss_cons (ps_for PassesOwn.never rfl (pi_list (pv 0)) (pg_tup rfl (pgs_cons (pg_name (i := 6) sc_living.nd rfl (.inl rfl)) (pgs_cons (pg_name (i := 7) sc_living.nd rfl (.inl rfl)) (pgs_cons (pg_name (i := 8) sc_living.nd rfl (.inl rfl)) pgs_nil))))
    (pss_one (ps_expr (pe_bm PySem.F.plainAttrs_list PySem.F.slot_list_append PySem.F.type_list_append mt_append (pv 5) (pa_cons (pe_or (pv 8) (pe_one (pe_callB (cr_any rfl) (by rfl) T.m_any (by decide +kernel) (pa_cons (pe_lc (own := [("operand", 4)]) rfl sc_living.nd (pi_list (pv 7)) (blkOk_by (own := [("operand", 4)]) (N := ["rows", "wanted", "above", "node", "operand", "fed", "size", "operands", "source"]) (sc := defScope s_living) (by decide +kernel)) (fun _ _ _ _ _ => (pg_name (i := 4) sc_living.nd rfl (.inl rfl))) (fun _ _ _ _ _ => pts_nil) (fun _ _ _ _ _ => (pe_ix (ix_listB (K := K) rfl) (pv 5) (pv 4) (fun _ _ => rfl)))) pa_nil)))) pa_nil)))))
    (pss_one (ps_ret (pe_lc (own := [("node", 3)]) rfl sc_living.nd (pi_range1 rfl T.m_range (pa_cons (pe_callB call_len_seq (by rfl) T.m_len (by decide +kernel) (pa_cons (pv 0) pa_nil)) pa_nil)) (blkOk_by (own := [("node", 3)]) (N := ["rows", "wanted", "above", "node", "operand", "fed", "size", "operands", "source"]) (sc := defScope s_living) (by decide +kernel)) (fun _ _ _ _ _ => (pg_name (i := 3) sc_living.nd rfl (.inl rfl))) (fun _ _ _ _ _ => pts_nil) (fun _ _ _ _ _ => (pe_and (pe_ix (ix_listB (K := K) rfl) (pv 2) (pv 3) (fun _ _ => rfl)) (pe_one (pe_ix (ix_listB (K := K) rfl) (pv 5) (pv 3) (fun _ _ => rfl))))))))))))), ?_⟩
      walk_at "s"
      rename_i p hp
      have eA : (List.replicate ((xs.length : Int)).toNat [V.bl false]).flatten = (List.replicate rs.length false).map V.bl := by
        rw [Int.toNat_natCast, hXl, List.map_replicate]
        exact List.flatten_replicate_singleton
      refine ⟨p, (xs.length : Int), [.bl false], rfl, rfl, upd_same, by omega, by omega, sz_small (by show 1 * _ ≤ _; omega), fun A1 hA1 => ?_⟩
      rw [eA]
      have sm1 := (same_new (o := .lst [.bl false]) hp).trans (same_new (o := .lst ((List.replicate rs.length false).map V.bl)) hA1)
      have nA : H A1 = none := (same_new (o := .lst [.bl false]) hp).free hA1
      have hA2 : upd (upd H p (.lst [.bl false])) A1 (.lst ((List.replicate rs.length false).map V.bl)) A1 = some (.lst ((List.replicate rs.length false).map V.bl)) := upd_same
      generalize upd (upd H p (.lst [.bl false])) A1 (.lst ((List.replicate rs.length false).map V.bl)) = H1 at sm1 hA2 ⊢
      have nkA : k ≠ A1 := ne_of_none hk nA
      have naA : a ≠ A1 := ne_of_none hX nA
      have hk1 := sm1 _ _ hk
      walk_at "s"
      refine for_tupQ (xs := ws.map V.int) Q rfl (fun i σ H2 => ∃ (v3 : Option V), σ = [some (.ref a), some (.ref k), some (.ref A1), v3, none, none, none, none, none] ∧ Same H H2 ∧ H2 A1 = some (.lst ((sets (List.replicate rs.length false) (ws.take i)).map V.bl))) ?_ ?_ ?_ ?_
      · exact ⟨_, rfl, sm1, hA2⟩
      · intro i σ H2 hi hP
        obtain ⟨v3, rfl, sm, _⟩ := hP
        first | exact SqL.of (sm _ _ hk) | exact SqT.of (sm _ _ hk)
      · intro N X i x σ H2 hi hP hN
        obtain ⟨v3, rfl, sm, hA3⟩ := hP
        obtain ⟨z, rfl, hz⟩ := map_get hi
        obtain ⟨z0, z1⟩ := hw z (List.mem_of_getElem? hz)
        walk_at "s"
        refine ⟨A1, _, z, z.toNat, rfl, rfl, hA3, ixN_flag z0 (by rw [List.length_map, sets_len, List.length_replicate]; exact z1), ?_⟩
        refine hN _ _ ⟨_, rfl, same_mut sm nA, ?_⟩
        rw [upd_same, take_snoc hz]
        have e2 : sets (List.replicate rs.length false) (ws.take i ++ [z]) = (sets (List.replicate rs.length false) (ws.take i)).set z.toNat true := by
          unfold sets
          rw [List.foldl_append]
          rfl
        rw [e2, List.map_set]
      · intro σ H2 hP
        obtain ⟨v3, rfl, sm, hA3⟩ := hP
        rw [List.length_map, List.take_length] at hA3
        have hX2 := sm _ _ hX
        have st0 : dn rs rs.length (sets (List.replicate rs.length false) ws) = abv rs ws := rfl
        walk_at "s"
        refine for_rangeCQ (c := -1) (n := ((xs.length : Int) - 0).toNat) Q rfl (fun i σ H3 => ∃ (v3 v4 : Option V) (bs : List Bool), σ = [some (.ref a), some (.ref k), some (.ref A1), v3, v4, none, none, none, none] ∧ Same H H3 ∧ H3 A1 = some (.lst (bs.map V.bl)) ∧ bs.length = rs.length ∧ dn rs (rs.length - i) bs = abv rs ws) ?_ ?_ ?_
        · exact ⟨_, _, _, rfl, sm, hA3, by rw [sets_len, List.length_replicate], st0⟩
        · intro N X i σ H3 hi hP hN
          obtain ⟨v3, v4, bs, rfl, sm3, hA4, hbl, hdn⟩ := hP
          have hil : i < rs.length := by omega
          obtain ⟨n, hn2⟩ : ∃ n : Nat, n + i + 1 = rs.length := ⟨rs.length - i - 1, by omega⟩
          have ev : (0 : Int) + ((((xs.length : Int) - 0).toNat : Nat) : Int) - 1 + ((i : Nat) : Int) * -1 = (n : Int) := by omega
          rw [ev]
          have er : rs[n]? = some rs[n] := List.getElem?_eq_getElem (by omega)
          obtain ⟨u, eu, t, o, rfl, ht, ho⟩ := hE.get er
          have hX3 := sm3 _ _ hX
          have ht3 := sm3 _ _ ht
          have ho3 : H3 o = some (.lst (rs[n].ops.map V.int)) := sm3 _ _ ho
          have hok := hW n _ er
          have hat := atI_nat eu
          rw [show rs.length - i = n + 1 from by omega, dn_succ] at hdn
          unfold step1 at hdn
          rw [er] at hdn
          have hdn : dn rs n (if flag bs (n : Int) = true then sets bs rs[n].ops else bs) = abv rs ws := hdn
          have eni : rs.length - (i + 1) = n := by omega
          have ho0 : H o = some (.lst (rs[n].ops.map V.int)) := ho
          generalize rs[n] = r at ht3 ho0 ho3 hok hdn
          walk_at "s"
          refine ⟨_, _, _, _, rfl, rfl, SqL.of hA4, at_flag (f := bs) (o := (n : Int)) (by omega) (by omega), ?_⟩
          walk_at "s"
          · rename_i e
            rw [if_pos e] at hdn
            refine for_listQ (xs := r.ops.map V.int) Q rfl (fun j σ H4 => ∃ (v4 : Option V), σ = [some (.ref a), some (.ref k), some (.ref A1), some (.int (n : Int)), v4, none, none, none, none] ∧ Same H H4 ∧ H4 A1 = some (.lst ((sets bs (r.ops.take j)).map V.bl))) ?_ ?_ ?_ ?_
            · exact ⟨_, rfl, sm3, hA4⟩
            · intro j σ H4 hj hP
              obtain ⟨v4, rfl, sm4, _⟩ := hP
              exact SqL.of (sm4 _ _ ho0)
            · intro N2 X2 j x σ H4 hj hP hN3
              obtain ⟨v4, rfl, sm4, hA5⟩ := hP
              obtain ⟨z, rfl, hz⟩ := map_get hj
              obtain ⟨z0, z1⟩ := hok.2.1 z (List.mem_of_getElem? hz)
              walk_at "s"
              refine ⟨A1, _, z, z.toNat, rfl, rfl, hA5, ixN_flag z0 (by rw [List.length_map, sets_len, hbl]; omega), ?_⟩
              refine hN3 _ _ ⟨_, rfl, same_mut sm4 nA, ?_⟩
              rw [upd_same, take_snoc hz]
              have e2 : sets bs (r.ops.take j ++ [z]) = (sets bs (r.ops.take j)).set z.toNat true := by
                unfold sets
                rw [List.foldl_append]
                rfl
              rw [e2, List.map_set]
            · intro σ H4 hP
              obtain ⟨v4, rfl, sm4, hA5⟩ := hP
              rw [List.length_map, List.take_length] at hA5
              exact hN _ _ ⟨_, _, sets bs r.ops, rfl, sm4, hA5, by rw [sets_len, hbl], by rw [eni]; exact hdn⟩
          · rename_i e
            rw [if_neg e] at hdn
            exact hN _ _ ⟨_, _, bs, rfl, sm3, hA4, hbl, by rw [eni]; exact hdn⟩
        · intro σ H3 hP
          obtain ⟨v3, v4, bs, rfl, sm3, hA4, hbl, hdn⟩ := hP
          rw [show rs.length - ((xs.length : Int) - 0).toNat = 0 from by omega] at hdn
          have hdn : bs = abv rs ws := hdn
          subst hdn
          have hX3 := sm3 _ _ hX
          walk_at "s"
          rename_i F hF
          have nF : H F = none := sm3.free hF
          have nAF : A1 ≠ F := ne_of_none hA4 hF
          refine for_listQ (xs := xs) Q rfl (fun j σ H4 => ∃ (v3 v4 v6 v7 v8 : Option V), σ = [some (.ref a), some (.ref k), some (.ref A1), v3, v4, some (.ref F), v6, v7, v8] ∧ Same H H4 ∧ H4 A1 = some (.lst ((abv rs ws).map V.bl)) ∧ H4 F = some (.lst ((List.range j).map fun (n : Nat) => V.bl (!bar rs (n : Int))))) ?_ ?_ ?_ ?_
          · exact ⟨_, _, _, _, _, rfl, sm3.trans (same_new hF), hp_new hA4 hF, upd_same⟩
          · intro j σ H4 hj hP
            obtain ⟨v3, v4, v6, v7, v8, rfl, sm4, _⟩ := hP
            exact SqL.of (sm4 _ _ hX)
          · intro N X j x σ H4 hj hP hN
            obtain ⟨v3, v4, v6, v7, v8, rfl, sm4, hA5, hF4⟩ := hP
            obtain ⟨r, er, t, o, rfl, ht, ho⟩ := hE.got hj
            have hjl := (List.getElem?_eq_some_iff.mp er).1
            have ht4 := sm4 _ _ ht
            have ho0 : H o = some (.lst (r.ops.map V.int)) := ho
            have ho4 := sm4 _ _ ho0
            have hok := hW j r er
            have eb := bar_at hW er
            have hfz : ((List.range j).map fun (n : Nat) => V.bl (!bar rs (n : Int))).length < sizeLine := sz_less (by rw [List.length_map, List.length_range]; omega)
            refine ⟨t, _, rfl, SqT.of ht4, rfl, ?_⟩
            have grow : ∀ H5 : Hp, ∀ b, Same H4 H5 → b = (!bar rs (j : Int)) → Same H (upd H5 F (.lst (((List.range j).map fun (n : Nat) => V.bl (!bar rs (n : Int))) ++ [.bl b]))) ∧ upd H5 F (.lst (((List.range j).map fun (n : Nat) => V.bl (!bar rs (n : Int))) ++ [.bl b])) A1 = some (.lst ((abv rs ws).map V.bl)) ∧ upd H5 F (.lst (((List.range j).map fun (n : Nat) => V.bl (!bar rs (n : Int))) ++ [.bl b])) F = some (.lst ((List.range (j + 1)).map fun (n : Nat) => V.bl (!bar rs (n : Int)))) := fun H5 b s5 eb2 =>
              ⟨same_mut (sm4.trans s5) nF, (upd_ne nAF).trans (s5 _ _ hA5), by rw [upd_same, List.range_succ, List.map_append, eb2]; rfl⟩
            walk_at "s"
            · rename_i es B hB
              refine lc_list (xs := r.ops.map V.int) (fun m H5 => Same H4 H5 ∧ H5 B = some (.lst (((r.ops.take m).map fun o => !bar rs o).map V.bl))) ?_ ?_ ?_ ?_
              · exact ⟨same_new hB, upd_same⟩
              · intro m H5 hm hP
                exact SqL.of (hP.1 _ _ ho4)
              · intro m x H5 hm hP
                obtain ⟨sm5, hB5⟩ := hP
                obtain ⟨z, rfl, hz⟩ := map_get hm
                obtain ⟨z0, z1⟩ := hok.2.1 z (List.mem_of_getElem? hz)
                have hml := (List.getElem?_eq_some_iff.mp hz).1
                have hF5 := sm5 _ _ hF4
                obtain ⟨y, rfl⟩ : ∃ y : Nat, z = (y : Int) := ⟨z.toNat, by omega⟩
                have hatF : atI ((List.range j).map fun (n : Nat) => V.bl (!bar rs (n : Int))) (y : Int) = some (.bl (!bar rs (y : Int))) := atI_nat (by rw [List.getElem?_map, List.getElem?_range (by omega)]; rfl)
                have h4 := hok.2.2.2
                walk_at "s"
                refine ⟨_, hB5, sz_less (by rw [List.length_map, List.length_map, List.length_take]; omega), same_mut sm5 hB, ?_⟩
                rw [upd_same, take_snoc hz, List.map_append, List.map_append]
                rfl
              · intro H5 hP
                obtain ⟨sm5, hB5⟩ := hP
                rw [List.length_map, List.take_length] at hB5
                have hF5 := sm5 _ _ hF4
                walk_at "s"
                refine hN _ _ ⟨_, _, _, _, _, rfl, grow H5 _ sm5 ?_⟩
                rw [eb, es, List.any_map]
                show r.ops.any (fun o => !bar rs o) = _
                rw [any_not]
                rfl
            · rename_i es
              exact hN _ _ ⟨_, _, _, _, _, rfl, grow H4 true (Same.refl _) (by rw [eb, es]; rfl)⟩
          · intro σ H4 hP
            obtain ⟨v3, v4, v6, v7, v8, rfl, sm4, hA5, hF4⟩ := hP
            have hX4 := sm4 _ _ hX
            walk_at "s"
            rename_i D hD
            refine lc_range (lo := 0) (n := ((xs.length : Int)).toNat) (fun j H5 => Same H4 H5 ∧ H5 D = some (.lst ((List.range j).map fun (n : Nat) => V.bl (liv rs ws (n : Int))))) ?_ ?_ ?_
            · exact ⟨same_new hD, upd_same⟩
            · intro j H5 hj hP
              obtain ⟨sm5, hD5⟩ := hP
              have hA6 := sm5 _ _ hA5
              have hF5 := sm5 _ _ hF4
              simp only [Int.zero_add]
              have hjl : j < rs.length := by omega
              have hatF : atI ((List.range xs.length).map fun (n : Nat) => V.bl (!bar rs (n : Int))) (j : Int) = some (.bl (!bar rs (j : Int))) := atI_nat (by rw [List.getElem?_map, List.getElem?_range (by omega)]; rfl)
              have hatA : atI ((abv rs ws).map V.bl) (j : Int) = some (.bl (flag (abv rs ws) (j : Int))) := at_flag (by omega) (by rw [abv_len]; omega)
              have fin : H5 D = some (.lst ((List.range j).map fun (n : Nat) => V.bl (liv rs ws (n : Int)))) → ∀ b, b = liv rs ws (j : Int) → ∃ acc, H5 D = some (.lst acc) ∧ acc.length < sizeLine ∧ Same H4 (upd H5 D (.lst (acc ++ [V.bl b]))) ∧ upd H5 D (.lst (acc ++ [V.bl b])) D = some (.lst ((List.range (j + 1)).map fun (n : Nat) => V.bl (liv rs ws (n : Int)))) := fun h b eb => ⟨_, h, sz_less (by rw [List.length_map, List.length_range]; omega), same_mut sm5 hD, by rw [upd_same, List.range_succ, List.map_append, eb]; rfl⟩
              walk_at "s"
              · rename_i e
                exact fin hD5 _ (by unfold liv; rw [e]; rfl)
              · rename_i e
                exact fin hD5 _ (by unfold liv; rw [show flag (abv rs ws) (j : Int) = false from by simpa using e]; rfl)
            · intro H5 hP
              obtain ⟨sm5, hD5⟩ := hP
              rw [Int.toNat_natCast, hXl] at hD5
              exact q D H5 (sm4.trans sm5) (sm4.free hD) hD5
end
end K15W
set_option Elab.async false
set_option linter.all false
set_option maxRecDepth 100000
set_option maxHeartbeats 4000000
/-! SetList15: set(xs), xs a list of ints, as a value that sorted may be given. -/
namespace LW
open PySem PySem.Spec PyProof.Rows L2
section
variable {P : Program} {w : World} {A : Around} {E : Value → Shared → Prop} {s : Shared}
/-- the set object before it is filled -/
abbrev bareSet (w : World) : Obj := { cls := .type "set", dict := none, data := .set #[] 0 (.fresh 0 0 (!w.params.followText "set-order")) }
set_option maxRecDepth 100000 in
set_option maxHeartbeats 3200000 in
theorem fill_list {l : Addr} {items : Array Value} (ns : List Int) {R : Result → Shared → Prop} (hh : A.handled = none) (hl : s.heap.IsList l items) (hit : IntsAre items.toList ns) (hb : ns.length + 1 < scanBound)
    (fin : ∀ (h' : Heap) (tk c : Nat), SetR w h' s.heap.objs.size (fun j => decide (j ∈ ns)) c → c ≤ ns.length → (∀ b o, s.heap.get? b = some o → h'.get? b = some o) → R (.ok (.ret .none)) { s with heap := h', toks := tk }) :
    codeAny (model P w) A (.builtin "set.update.loop" ⟨[.ref s.heap.objs.size, .ref (s.heap.objs.size + 1)], []⟩) R { s with heap := (s.heap.push (bareSet w)).push { cls := .type "list_iterator", data := .fields #[.ref l, .int 0 0] } } := by
  have many : items.size = ns.length := by
    have z := IntsAre.length hit
    rw [Array.length_toList] at z
    exact z
  obtain ⟨ol, hol, kcl, kdt⟩ := id hl
  have below : l < s.heap.objs.size := Heap.lt_size hol
  have size1 : (s.heap.push (bareSet w)).objs.size = s.heap.objs.size + 1 := Heap.size_push ..
  have atSet : (s.heap.push (bareSet w)).get? s.heap.objs.size = some (bareSet w) := Heap.get?_push_size _ rfl
  have lst1 : (s.heap.push (bareSet w)).IsList l items := hl.push _
  have far : l ≠ s.heap.objs.size + 1 := Nat.ne_of_lt (Nat.lt_succ_of_lt below)
  have each : ∀ (i : Nat) (v : Value), items[i]? = some v → ∃ k t, ns[i]? = some k ∧ v = .int k t := fun i v hv => by
    have lt : i < ns.length := by
      rw [← many]
      exact (Array.getElem?_eq_some_iff.mp hv).1
    obtain ⟨t, e⟩ := PyProof.Rows.IntsAre.int_at hit i v (by rw [Array.getElem?_toList]; exact hv)
    exact ⟨ns[i], t, List.getElem?_eq_getElem lt, by rw [e, List.getD_eq_getElem?_getD, List.getElem?_eq_getElem lt]; rfl⟩
  have handled : A.in1.handled = none := by simp [hh]
  refine set_update_ints ((Walks.list handled (s.heap.objs.size + 1) l far items).toS) s.heap.objs.size (by
    simp only [List.mem_cons, List.not_mem_nil, or_false, not_or]
    exact ⟨Nat.ne_of_lt (Nat.lt_succ_self _), Nat.ne_of_gt below⟩) ns many hb each (items.size - 0) 0 _ (by omega) (Nat.zero_le _) ⟨?_, ?_⟩ ⟨0, Nat.le_refl 0, setR_new_at (Heap.get?_push_of_some _ atSet)⟩ fun s' c m hc k => ?_
  · rw [← size1]
    exact ⟨_, Heap.get?_push_size _ rfl, rfl, rfl⟩
  · exact lst1.push _
  · rw [Moved.eq_with m]
    rw [many] at hc
    refine fin s'.heap s'.toks c k hc fun b o e => ?_
    have lt := Heap.lt_size e
    refine m.heap b o ?_ (Heap.get?_push_of_some _ (Heap.get?_push_of_some _ e))
    simp only [List.mem_cons, List.not_mem_nil, or_false, not_or]
    exact ⟨Nat.ne_of_lt lt, Nat.ne_of_lt (Nat.lt_succ_of_lt lt)⟩
set_option maxRecDepth 100000 in
set_option maxHeartbeats 3200000 in
theorem call_set_listR {l : Addr} {items : Array Value} (ns : List Int) {Q : Value → Shared → Prop} (hh : A.handled = none) (hl : s.heap.IsList l items) (hit : IntsAre items.toList ns) (hb : ns.length + 1 < scanBound)
    (fin : ∀ (h' : Heap) (tk c : Nat), SetR w h' s.heap.objs.size (fun j => decide (j ∈ ns)) c → c ≤ ns.length → (∀ b o, s.heap.get? b = some o → h'.get? b = some o) → Q (.ref s.heap.objs.size) { s with heap := h', toks := tk }) :
    wpAny (model P w) A (call (.type "set") [.ref l]) Q E s := by
  have atSet : (s.heap.push (bareSet w)).get? s.heap.objs.size = some (bareSet w) := Heap.get?_push_size _ rfl
  obtain ⟨c0, tl0, mro⟩ := F.called_set.mro
  have made := F.called_set.made
  have sub := F.called_set.sub
  have n1 := F.called_set.notType
  have n2 := F.called_set.canCreate
  have n3 := F.typeCall_set_1 (.ref l)
  refine wpAny_call (codeAny_of_tree ?_)
  show wpAny _ _ (callAny (.type "set") _) _ _ _
  refine wpAny_pure ⟨Code.quiet_builtin _ (by decide +kernel), codeAny_builtin F.entry_type_call ?_⟩
  rw [Around.under_plain (weight_type_call_type "set" [.ref l] []) rfl]
  repeat (any_goals (first | assumption | wp_step))
  refine codeAny_mono (code_set_led1 (.ref l) (E := E) (Q₁ := fun obj z => obj = .ref s.heap.objs.size ∧ z = { s with heap := s.heap.push (bareSet w) }) ⟨rfl, rfl⟩) fun r z hr => ?_
  cases r with
  | error e => exact hr
  | ok fl =>
    cases fl with
    | ret obj =>
      obtain ⟨rfl, rfl⟩ := hr
      have kind : Shared.TypeIs { s with heap := s.heap.push (bareSet w) } (.ref s.heap.objs.size) "set" := ⟨_, atSet, rfl⟩
      have n4 := F.called_set.init.lookup
      have n5 := F.called_set.init.bind (.ref s.heap.objs.size)
      repeat (any_goals (first | assumption | wp_step))
      refine codeAny_mono (codeAny_call_builtin (R := wants (fun r z2 => r = .none ∧ ∃ h' tk c, z2 = { s with heap := h', toks := tk } ∧ SetR w h' s.heap.objs.size (fun j => decide (j ∈ ns)) c ∧ c ≤ ns.length ∧ (∀ b o, s.heap.get? b = some o → h'.get? b = some o)) E) F.called_set.init.plain F.entry_set_init (check_set_init_1 kind ?_)) fun r2 z2 hr2 => ?_
      · have lst1 : (s.heap.push (bareSet w)).IsList l items := hl.push _
        obtain ⟨⟨ocls, odict, odata, oslots⟩, hol, kcl, nl, kdt⟩ := id lst1
        simp only at kcl kdt
        subst kcl
        subst kdt
        have m1 := F.sub_list_set
        have m2 := F.sub_list_frozenset
        have m3 : (Value.type "list" == Value.type "dict") = false := by decide
        unfold Builtin.«set.__init__» noKeywords Builtin.Frozenset.updateFrom
        generalize gi : pyIter = it
        wp_walk
        subst gi
        refine wpAny_pyIter_list lst1 ?_
        refine wpAny_bind (wpAny_runValue ?_)
        have size1 : (s.heap.push (bareSet w)).objs.size = s.heap.objs.size + 1 := Heap.size_push ..
        rw [size1]
        refine fill_list (A := A.in1.in1) ns (by simp [hh]) hl hit hb fun h' tk c k hc kk => ?_
        show wpAny _ _ _ _ _ _
        refine wpAny_pure ?_
        show wpAny _ _ (ret Value.none) _ _ _
        exact wpAny_pure ⟨rfl, h', tk, c, rfl, k, hc, kk⟩
      · cases r2 with
        | error e => exact hr2
        | ok fl2 =>
          cases fl2 with
          | ret r =>
            obtain ⟨rfl, h', tk, c, rfl, k, hc, kk⟩ := hr2
            repeat (any_goals (first | assumption | wp_step))
            exact fin _ _ _ k hc kk
          | _ => exact hr2.elim
    | _ => exact hr.elim
end
end LW
set_option Elab.async false
set_option linter.all false
set_option maxRecDepth 100000
set_option maxHeartbeats 4000000
/-! SetRule15: set(xs) as a rule. -/
namespace LW
open PySem PySem.Spec PyProof.Rows L2
def rSetOfL (K : PySem.W.Frag) (w : World) : List V → Hp → VK → Prop := fun xs H Q => ∃ (p : Addr) (ns : List Int), xs = [.ref p] ∧ SqL K H p (ns.map V.int) ∧ ns.length ≤ 1000 ∧ ∀ (a : Addr) (c : Nat), H a = none → c ≤ ns.length → Q (.ref a) (upd H a (SetO w a (fun j => decide (j ∈ ns)) c))
theorem cr_setL {X : Cx} (hc : X.calm = true) : CallR X (.type "set") (rSetOfL X.K X.w) := by
  intro pins s σ H xs us Q I r h
  obtain ⟨p, ns, rfl, hq, hl, q⟩ := h
  rw [Vals.ref1 r]
  obtain ⟨its, rv, pl, hz⟩ := I.list hq
  have hi : IntsAre its.toArray.toList ns := ints_of_vals rv
  refine call_set_listR ns (I.ok.hd hc) pl.isList hi (by unfold scanBound; omega) fun h' tk c R hcn k => ?_
  exact ⟨.ref _, upd H s.heap.objs.size (SetO X.w s.heap.objs.size (fun j => decide (j ∈ ns)) c), I.laid (t' := tk) k (Nat.le_refl _) (setO_new R), rfl, q _ c (I.hok.fresh (Nat.le_refl _)) hcn⟩
end LW
set_option Elab.async false
set_option linter.all false
set_option maxRecDepth 100000
set_option maxHeartbeats 4000000
namespace K15W
open PySem PySem.Spec PyProof.Rows L2 TL LW NT FL NF
local macro_rules | `(tactic| walk_at "ne") => `(tactic| first
  | (with_reducible assumption)
  | exact Ne.symm (by assumption)
  | (with_reducible exact ne_of_none (by assumption) (by assumption))
  | (with_reducible exact (ne_of_none (by assumption) (by assumption)).symm)
  | (apply ne_of_none; (case h' => assumption); (case h => walk_at "hp"))
  | (apply Ne.symm; apply ne_of_none; (case h' => assumption); (case h => walk_at "hp")))
local macro_rules | `(tactic| walk_at "hp") => `(tactic| first
  | (with_reducible assumption)
  | exact upd_same
  | (with_reducible exact hp_new (by assumption) (by assumption))
  | (apply hp_new; (case n => assumption); (case h => walk_at "hp"))
  | (refine (upd_ne ?ne).trans ?hp; (case ne => walk_at "ne"); (case hp => walk_at "hp")))
local macro_rules | `(tactic| walk_at "sq") => `(tactic| first
  | ((with_reducible show SqL _ _ _ _); assumption)
  | ((with_reducible show SqT _ _ _ _); assumption)
  | exact SqL.of (by assumption)
  | exact SqL.of upd_same
  | exact SqT.of (by assumption)
  | exact SqT.of upd_same
  | (apply SqL.of; walk_at "hp")
  | (apply SqT.of; walk_at "hp"))
local macro_rules | `(tactic| walk_at "len") => `(tactic| first
  | (with_reducible assumption)
  | exact sz_small (by omega)
  | exact sz_less (by omega)
  | decide
  | (refine sz_small ?_; simp only [List.length_append, List.length_cons, List.length_nil, List.length_map, str_len]; omega)
  | (refine sz_less ?_; simp only [List.length_append, List.length_cons, List.length_nil, List.length_map, str_len]; omega))
local macro_rules | `(tactic| walk_at "cond") => `(tactic| first
  | omega
  | (split <;> omega)
  | (with_reducible assumption)
  | exact .inl ⟨by omega, by omega⟩
  | exact .inr ⟨by omega, by omega⟩
  | exact ⟨by omega, by omega⟩
  | (show (0 : Int) < _; omega)
  | (show (0 : Int) < _; decide +kernel)
  | exact ⟨by omega, by omega, by decide⟩
  | walk_at "len"
  | rfl
  | (show CMulW _ _; unfold CMulW; decide +kernel)
  | exact ⟨_, rfl⟩
  | decide +kernel
  | exact ⟨_, by walk_at "sq"⟩
  | exact .inl ⟨rfl, _, by walk_at "sq"⟩)
local macro_rules | `(tactic| walk_at "at") => `(tactic| first
  | (with_reducible assumption)
  | exact atI_nat (by assumption)
  | exact atI_last _ _
  | exact atI_nat (j := 0) rfl
  | exact atI_nat (j := 1) rfl
  | exact atI_nat (j := 2) rfl
  | exact atI_nat (j := 3) rfl
  | exact atI_nat (j := 4) rfl)
local macro_rules | `(tactic| walk_at "ix") => `(tactic| first
  | (with_reducible assumption)
  | (with_reducible exact ixN_0 (by simp; done))
  | (with_reducible exact ixN_1 (by simp; done))
  | (with_reducible exact ixN_2 (by simp; done))
  | (with_reducible exact Evl.ixN_nat (by assumption))
  | (with_reducible exact Evl.ixN_nat (by omega)))
local macro_rules | `(tactic| walk_at "v") => `(tactic| first
  | exact val_var rfl
  | (with_reducible exact val_c)
  | (with_reducible apply val_orV; (case ha => walk_at "v"); (case hb => walk_at "v"))
  | (with_reducible apply val_andV; (case ha => walk_at "v"); (case hb => walk_at "v"))
  | (with_reducible apply val_notV; walk_at "v")
  | (with_reducible apply val_ifS; (case h => walk_at "w"); (case ha => walk_at "v"); (case hb => walk_at "v"))
  | (with_reducible apply val_ifI; (case h => walk_at "w"); (case ha => walk_at "v"); (case hb => walk_at "v"))
  | (with_reducible apply val_ifB; (case h => walk_at "w"); (case ha => walk_at "v"); (case hb => walk_at "v"))
  | (with_reducible apply val_eqS; (case ha => walk_at "v"); (case hb => walk_at "v"))
  | (with_reducible apply val_eqI; (case ha => walk_at "v"); (case hb => walk_at "v"))
  | (with_reducible apply val_neS; (case ha => walk_at "v"); (case hb => walk_at "v"))
  | (with_reducible apply val_neI; (case ha => walk_at "v"); (case hb => walk_at "v"))
  | (with_reducible apply val_op; (case ha => walk_at "v"); (case hb => walk_at "v"); (case hr => exact fun Q q => ⟨_, _, rfl, rfl, q⟩)))
local macro_rules | `(tactic| walk_at "w") => `(tactic| first
  | (with_reducible apply ans_or2; (case h1 => walk_at "w"); (case h2 => walk_at "w"))
  | (with_reducible apply ans_and2; (case h1 => walk_at "w"); (case h2 => walk_at "w"))
  | (with_reducible apply ans_not; walk_at "w")
  | (with_reducible apply ans_test; walk_at "v")
  | (with_reducible apply ans_val; walk_at "v"))
local macro_rules | `(tactic| walk_at "s2") => `(tactic| first
  | refine ⟨_, rfl, ?_⟩
  | refine ⟨_, _, rfl, rfl, ?_⟩
  | (refine And.intro ?cc ?_; (case cc => walk_at "cond"))
  | refine ⟨_, _, _, _, rfl, rfl, by walk_at "sq", by walk_at "at", ?_⟩
  | refine ⟨_, _, _, _, rfl, rfl, by walk_at "hp", by walk_at "ix", ?_⟩
  | refine ⟨_, _, _, _, rfl, rfl, by walk_at "hp", by walk_at "hp", by walk_at "len", ?_⟩
  | refine ⟨_, _, _, rfl, rfl, by walk_at "len", by walk_at "at", ?_⟩
  | refine ⟨_, _, _, rfl, rfl, by walk_at "hp", by walk_at "len", ?_⟩
  | refine ⟨_, _, _, rfl, rfl, by walk_at "hp", by walk_at "at", ?_⟩
  | refine ⟨_, _, rfl, rfl, by walk_at "sq", ?_⟩
  | refine ⟨_, _, rfl, rfl, by walk_at "len", ?_⟩
  | refine ⟨_, _, rfl, by walk_at "sq", ?_⟩
  | refine ⟨_, _, rfl, .inl (by walk_at "sq"), ?_⟩
  | refine ⟨_, _, rfl, .inr (by walk_at "sq"), ?_⟩
  | refine ⟨_, _, rfl, by walk_at "sq", rfl, ?_⟩
  | refine ⟨_, fun _ _ h => h, ?_⟩
  | refine .inl ⟨_, rfl, ?_⟩
  | refine ⟨_, _, .type "int", .type _, true, rfl, ClsV.ty _, .base (.int _), kit_ty (by decide +kernel), ?_⟩
  | refine ⟨_, _, .type "int", .type _, false, rfl, ClsV.ty _, .base (.int _), kit_ty (by decide +kernel), ?_⟩
  | refine ⟨_, _, .type "bool", .type _, true, rfl, ClsV.ty _, .base (.bl _), kit_ty (by decide +kernel), ?_⟩
  | refine ⟨_, _, .type "bool", .type _, false, rfl, ClsV.ty _, .base (.bl _), kit_ty (by decide +kernel), ?_⟩
  | refine ⟨_, _, .type "str", .type _, true, rfl, ClsV.ty _, .base (.str _), kit_ty (by decide +kernel), ?_⟩
  | refine ⟨_, _, .type "str", .type _, false, rfl, ClsV.ty _, .base (.str _), kit_ty (by decide +kernel), ?_⟩
  | refine ⟨_, _, .type "NoneType", .type _, true, rfl, ClsV.ty _, .base (.non), kit_ty (by decide +kernel), ?_⟩
  | refine ⟨_, _, .type "NoneType", .type _, false, rfl, ClsV.ty _, .base (.non), kit_ty (by decide +kernel), ?_⟩
  | refine ⟨_, _, .type "list", .type _, true, rfl, ClsV.ty _, .base (.lst (by walk_at "hp")), kit_ty (by decide +kernel), ?_⟩
  | refine ⟨_, _, .type "list", .type _, false, rfl, ClsV.ty _, .base (.lst (by walk_at "hp")), kit_ty (by decide +kernel), ?_⟩
  | refine ⟨_, _, .type "tuple", .type _, true, rfl, ClsV.ty _, .base (.tup (by walk_at "hp")), kit_ty (by decide +kernel), ?_⟩
  | refine ⟨_, _, .type "tuple", .type _, false, rfl, ClsV.ty _, .base (.tup (by walk_at "hp")), kit_ty (by decide +kernel), ?_⟩
  | fail)
local macro_rules | `(tactic| walk_at "s1") => `(tactic| first
  | (with_reducible refine go_gcons ?_)
  | (with_reducible refine go_gnil ?_)
  | (with_reducible refine go_seqM ?_)
  | (with_reducible refine go_nextM ?_)
  | (with_reducible refine go_contM ?_)
  | (with_reducible refine go_brkM ?_)
  | (with_reducible refine go_retM ?_)
  | (with_reducible refine go_asgM ?_)
  | (with_reducible refine go_test ?_)
  | (with_reducible refine go_rI0 ?_)
  | (with_reducible refine go_op ?_)
  | (with_reducible refine go_var rfl ?_)
  | ((with_reducible show tFor (iRng1 _) _ _ _ _ _); refine (show iRng1 _ _ _ _ from ?_))
  | (with_reducible refine go_rng1 ?_)
  | (with_reducible refine go_c ?_)
  | (with_reducible apply go_pick; (case hs => walk_at "hp"); (case h0 => walk_at "cond"); (case h1 => walk_at "cond"); (case' q => intro k a b c h0 h1))
  | (with_reducible refine go_nil ?_)
  | (with_reducible refine go_cons ?_)
  | (with_reducible refine go_call ?_)
  | (with_reducible refine go_cb ?_)
  | (with_reducible refine go_next ?_)
  | (with_reducible refine go_cont ?_)
  | (with_reducible refine go_ret ?_)
  | (with_reducible refine go_name ?_)
  | (with_reducible refine go_seq ?_)
  | (with_reducible refine go_asg ?_)
  | (with_reducible apply go_or; (case h => walk_at "v"))
  | (with_reducible apply go_and; (case h => walk_at "v"))
  | (with_reducible apply go_andL; (case h => walk_at "v"); (case' h1 => intro e); (case' h2 => intro e))
  | (with_reducible apply go_orL; (case h => walk_at "v"); (case' h1 => intro e); (case' h2 => intro e))
  | (with_reducible apply go_ifE; (case h => walk_at "v"))
  | (with_reducible apply go_ifOr; (case h => walk_at "w"); (case' h1 => intro e); (case' h2 => intro e))
  | (with_reducible apply go_ifAnd; (case h => walk_at "w"); (case' h1 => intro e); (case' h2 => intro e))
  | (with_reducible refine go_min ?_)
  | (with_reducible refine iteT ?_)
  | (with_reducible refine iteF ?_)
  | (with_reducible refine iteD (fun _ => ?_) (fun e => absurd rfl e))
  | (with_reducible refine iteS (fun e => ?_) (fun e => ?_))
  | (with_reducible refine iteI (fun e => ?_) (fun e => ?_))
  | (with_reducible refine iteSn (fun e => ?_) (fun e => ?_))
  | (with_reducible refine iteIn (fun e => ?_) (fun e => ?_))
  | (with_reducible refine iteD (fun e => ?_) (fun e => ?_))
  | (with_reducible refine iteDn (fun e => ?_) (fun e => ?_))
  | (with_reducible refine ite2 (fun e => ?_) (fun e => ?_))
  | (refine fun (p : Addr) (hp : _ = none) => ?_)
  | ((conv => whnf); walk_at "s2")
  | fail)
local macro_rules | `(tactic| walk_at "s") => `(tactic| repeat' (first
  | (with_reducible refine go_gcons ?_)
  | (with_reducible refine go_gnil ?_)
  | (with_reducible refine go_seqM ?_)
  | (with_reducible refine go_nextM ?_)
  | (with_reducible refine go_contM ?_)
  | (with_reducible refine go_brkM ?_)
  | (with_reducible refine go_retM ?_)
  | (with_reducible refine go_asgM ?_)
  | (with_reducible refine go_test ?_)
  | (with_reducible refine go_rI0 ?_)
  | (with_reducible refine go_op ?_)
  | (with_reducible refine go_var rfl ?_)
  | ((with_reducible show tFor (iRng1 _) _ _ _ _ _); refine (show iRng1 _ _ _ _ from ?_))
  | (with_reducible refine go_rng1 ?_)
  | (with_reducible refine go_c ?_)
  | (with_reducible apply go_pick; (case hs => walk_at "hp"); (case h0 => walk_at "cond"); (case h1 => walk_at "cond"); (case' q => intro k a b c h0 h1))
  | (with_reducible refine go_nil ?_)
  | (with_reducible refine go_cons ?_)
  | (with_reducible refine go_call ?_)
  | (with_reducible refine go_cb ?_)
  | (with_reducible refine go_next ?_)
  | (with_reducible refine go_cont ?_)
  | (with_reducible refine go_ret ?_)
  | (with_reducible refine go_name ?_)
  | (with_reducible refine go_seq ?_)
  | (with_reducible refine go_asg ?_)
  | (with_reducible apply go_or; (case h => walk_at "v"))
  | (with_reducible apply go_and; (case h => walk_at "v"))
  | (with_reducible apply go_andL; (case h => walk_at "v"); (case' h1 => intro e); (case' h2 => intro e))
  | (with_reducible apply go_orL; (case h => walk_at "v"); (case' h1 => intro e); (case' h2 => intro e))
  | (with_reducible apply go_ifE; (case h => walk_at "v"))
  | (with_reducible apply go_ifOr; (case h => walk_at "w"); (case' h1 => intro e); (case' h2 => intro e))
  | (with_reducible apply go_ifAnd; (case h => walk_at "w"); (case' h1 => intro e); (case' h2 => intro e))
  | (with_reducible refine go_min ?_)
  | (with_reducible refine iteT ?_)
  | (with_reducible refine iteF ?_)
  | (with_reducible refine iteD (fun _ => ?_) (fun e => absurd rfl e))
  | (with_reducible refine iteS (fun e => ?_) (fun e => ?_))
  | (with_reducible refine iteI (fun e => ?_) (fun e => ?_))
  | (with_reducible refine iteSn (fun e => ?_) (fun e => ?_))
  | (with_reducible refine iteIn (fun e => ?_) (fun e => ?_))
  | (with_reducible refine iteD (fun e => ?_) (fun e => ?_))
  | (with_reducible refine iteDn (fun e => ?_) (fun e => ?_))
  | (with_reducible refine ite2 (fun e => ?_) (fun e => ?_))
  | (refine fun (p : Addr) (hp : _ = none) => ?_)
  | ((conv => whnf); walk_at "s2")
  | fail))

section
variable {P : Program} {w : World} {K : PySem.W.Frag} {mg : Str → Option Value} {base : Heap}
/-! ### the arcs -/
theorem rise_eq : ∀ {a b : List Int}, a.Pairwise (· < ·) → b.Pairwise (· < ·) → (∀ x : Int, x ∈ a ↔ x ∈ b) → a = b
  | [], [], _, _, _ => rfl
  | [], y :: b, _, _, h => by
    have := (h y).mpr List.mem_cons_self
    cases this
  | x :: a, [], _, _, h => by
    have := (h x).mp List.mem_cons_self
    cases this
  | x :: a, y :: b, pa, pb, h => by
    obtain ⟨pa1, pa2⟩ := List.pairwise_cons.mp pa
    obtain ⟨pb1, pb2⟩ := List.pairwise_cons.mp pb
    have e : x = y := by
      rcases List.mem_cons.mp ((h x).mp List.mem_cons_self) with h1 | h1
      · exact h1
      · rcases List.mem_cons.mp ((h y).mpr List.mem_cons_self) with h2 | h2
        · exact h2.symm
        · have := pa1 _ h2
          have := pb1 _ h1
          omega
    subst e
    rw [rise_eq pa2 pb2 fun z => ?_]
    constructor
    · intro hz
      rcases List.mem_cons.mp ((h z).mp (List.mem_cons_of_mem _ hz)) with h1 | h1
      · have := pa1 _ hz
        omega
      · exact h1
    · intro hz
      rcases List.mem_cons.mp ((h z).mpr (List.mem_cons_of_mem _ hz)) with h1 | h1
      · have := pb1 _ hz
        omega
      · exact h1
theorem sops_rise {rs : List Rw} {r : Rw} : ((sops rs r).map fun k : Nat => (k : Int)).Pairwise (· < ·) := by
  unfold sops
  rw [List.pairwise_map]
  exact (List.pairwise_lt_range.filter _).imp fun h => by omega
theorem sops_is {rs : List Rw} (w : WF rs) {n : Nat} {r : Rw} (e : rs[n]? = some r) {ns : List Int} (p : ns.Pairwise (· < ·)) (h : ∀ x : Int, x ∈ ns ↔ x ∈ r.ops) : ns = (sops rs r).map fun k : Nat => (k : Int) :=
  rise_eq p sops_rise fun x => by
    rw [h x, List.mem_map]
    constructor
    · intro hx
      have := (w n r e).2.1 x hx
      refine ⟨x.toNat, (mem_sops w e).mpr (by rw [Int.toNat_of_nonneg this.1]; exact hx), Int.toNat_of_nonneg this.1⟩
    · rintro ⟨k, hk, rfl⟩
      exact (mem_sops w e).mp hk
theorem sops_len {rs : List Rw} {r : Rw} (hn : rs.length ≤ 20) : (sops rs r).length ≤ 20 := by
  unfold sops
  refine Nat.le_trans (List.length_filter_le _ _) ?_
  rw [List.length_range]
  exact hn
theorem livV_at {rs : List Rw} {ws : List Int} {n : Nat} (h : n < rs.length) : atI (livV rs ws) (n : Int) = some (.bl (liv rs ws (n : Int))) := by
  unfold livV
  exact atI_nat (by rw [List.getElem?_map, List.getElem?_range h]; rfl)
/-- arcs in the making -/
def Grow (H : Hp) (l D C : Addr) (lv : List V) (kvs : List (Key × V)) (H' : Hp) (as : List Ar) : Prop := Same H H' ∧ H' l = some (.lst lv) ∧ H' D = some (.dK kvs) ∧ l ≠ C ∧ D ≠ C ∧ ∃ ys, H' C = some (.lst ys) ∧ Each (ArcV H') ys as
theorem Grow.put {H H' : Hp} {l D C p : Addr} {lv : List V} {kvs : List (Key × V)} {as : List Ar} {ys : List V} (nC : H C = none) (g : Grow H l D C lv kvs H' as) (hy : H' C = some (.lst ys)) (hp : H' p = none) {x y : Int} {c : V} (a : Ar) (ex : x = (a.lo : Int)) (ey : y = (a.hi : Int)) (ec : c = CapV a.cap) :
    Grow H l D C lv kvs (upd (upd H' p (.tup [.int x, .int y, c])) C (.lst (ys ++ [.ref p]))) (as ++ [a]) := by
  obtain ⟨g1, g2, g3, g4, g5, ys', g6, g7⟩ := g
  rw [hy] at g6
  injection g6 with g6
  injection g6 with g6
  subst g6
  subst ex ey ec
  have s1 : Same H' (upd H' p (.tup [.int (a.lo : Int), .int (a.hi : Int), CapV a.cap])) := same_new hp
  have t : Ts H' (upd (upd H' p (.tup [.int (a.lo : Int), .int (a.hi : Int), CapV a.cap])) C (.lst (ys ++ [.ref p]))) := (Ts.of s1).trans (Ts.upd (s1 _ _ hy))
  refine ⟨same_mut (g1.trans s1) nC, (upd_ne g4).trans (s1 _ _ g2), (upd_ne g5).trans (s1 _ _ g3), g4, g5, _, upd_same, ?_⟩
  refine (g7.mono fun _ _ => ArcV.ts t).snoc ⟨p, rfl, ?_⟩
  rw [upd_ne (ne_of_none hy hp).symm]
  exact upd_same
theorem Grow.new {H H' H'' : Hp} {l D C : Addr} {lv : List V} {kvs : List (Key × V)} {as : List Ar} (g : Grow H l D C lv kvs H' as) (s : Same H' H'') : Grow H l D C lv kvs H'' as := by
  obtain ⟨g1, g2, g3, g4, g5, ys, g6, g7⟩ := g
  exact ⟨g1.trans s, s _ _ g2, s _ _ g3, g4, g5, ys, s _ _ g6, g7.mono fun _ _ => ArcV.ts (Ts.of s)⟩
def arcsN (rs : List Rw) (ws : List Int) (n : Nat) : List Ar := (List.range n).flatMap (blk rs ws)
theorem arcsN_succ {rs : List Rw} {ws : List Int} {n : Nat} : arcsN rs ws (n + 1) = arcsN rs ws n ++ blk rs ws n := by
  unfold arcsN
  rw [List.range_succ, List.flatMap_append, List.flatMap_singleton]
theorem arcsN_le {rs : List Rw} {ws : List Int} {n : Nat} (h : n ≤ rs.length) (hn : rs.length ≤ 20) : (arcsN rs ws n).length ≤ 3000 := by
  refine Nat.le_trans ?_ (arcs_len (rs := rs) (ws := ws) hn)
  have : ∀ d, n + d ≤ rs.length → (arcsN rs ws n).length ≤ (arcsN rs ws (n + d)).length := fun d => by
    induction d with
    | zero => intro _; exact Nat.le_refl _
    | succ d ih =>
      intro hd
      refine Nat.le_trans (ih (by omega)) ?_
      rw [← Nat.add_assoc, arcsN_succ, List.length_append]
      omega
  have k := this (rs.length - n) (by omega)
  rw [show n + (rs.length - n) = rs.length from by omega] at k
  exact k
def spBetween : Sp := fun vs H Q _ => ∃ (a k : Addr) (rs : List Rw) (ws : List Int), vs = [.ref a, .ref k] ∧ RowsL H a rs ∧ WF rs ∧ rs.length ≤ 20 ∧ Seq H k ws ∧ InR rs ws ∧ ws.length ≤ 100 ∧ ∀ l H', Same H H' → H l = none → ArcsAt H' l (arcs rs ws) → Q (.ref l) H'
theorem ok_between (T : Top w K mg) : FnOk P w K mg base CX0 2 T.a_lines_between T.d_lines_between ["rows", "wanted"] spBetween := by
  have G_living := ok_live (P := P) (w := w) (base := base) T
  refine T.F_lines_between.ok sc_lines_between (fun vs H Q E h => ?_) (fun cdv A outer s H vs Q E hr h => ?_)
  · obtain ⟨a, k, rs, ws, rfl, _⟩ := h
    rfl
  · obtain ⟨a, k, rs, ws, rfl, hR, hW, hn, hk, hw, hwl, q⟩ := h
    obtain ⟨xs, hX, hE⟩ := id hR
    have hu := hu_of hr
    have hXl := hE.len
    rcases hk with hk | hk
    · refine ⟨_, (pss_cons (ps_set (i := 2) sc_lines_between.nd rfl (.inl rfl) (pe_call G_living (hr.mono (by omega)) (by rfl) T.m_living T.F_living.kp T.b_living .nil pass0 (pa_cons (pv 0) (pa_cons (pv 1) pa_nil))))
    (pss_cons (ps_setDc (i := 4) (own := [("node", 3)]) rfl sc_lines_between.nd rfl rfl (sw_trueD rfl rfl rfl (by decide +kernel)) (pi_list (pv 1)) (blkOk_by (own := [("node", 3)]) (N := ["rows", "wanted", "alive", "node", "goals", "arcs", "size", "operands", "source", "operand"]) (sc := defScope s_lines_between) (by decide +kernel)) (fun _ _ _ _ _ => (pg_name (i := 3) sc_lines_between.nd rfl (.inl rfl))) (fun _ _ _ _ _ => pts_nil) (fun _ _ _ _ _ => (pv 3)) (fun _ _ _ _ _ => pe_bl))
    (pss_cons (ps_set (i := 5) sc_lines_between.nd rfl (.inl rfl) (pe_lst pa_nil))
    (pss_cons (ps_for PassesOwn.never rfl (pi_range1 rfl T.m_range (pa_cons (pe_callB call_len_seq (by rfl) T.m_len (by decide +kernel) (pa_cons (pv 0) pa_nil)) pa_nil)) (pg_name (i := 3) sc_lines_between.nd rfl (.inl rfl))
    (pss_one (ps_if (pt_val (pe_ix ix_list (pv 2) (pv 3) (fun _ _ => rfl)))
    (pss_cons (ps_asg (pe_ix ix_list (pv 0) (pv 3) (fun _ _ => rfl)) (pg_tup rfl (pgs_cons (pg_name (i := 6) sc_lines_between.nd rfl (.inl rfl)) (pgs_cons (pg_name (i := 7) sc_lines_between.nd rfl (.inl rfl)) (pgs_cons (pg_name (i := 8) sc_lines_between.nd rfl (.inl rfl)) pgs_nil)))))
    (pss_cons (ps_expr (pe_bm PySem.F.plainAttrs_list PySem.F.slot_list_append PySem.F.type_list_append mt_append (pv 5) (pa_cons (pe_tup (pa_cons (pe_op op_mul pe_int (pv 3)) (pa_cons (pe_op op_add (pe_op op_mul pe_int (pv 3)) pe_int) (pa_cons (pv 6) pa_nil)))) pa_nil)))
    (Evl.pss_cut (ps_if (pt_val (pv 8))
    (pss_one (ps_expr (pe_bm PySem.F.plainAttrs_list PySem.F.slot_list_append PySem.F.type_list_append mt_append (pv 5) (pa_cons (pe_tup (pa_cons (pe_op op_mul pe_int (pe_callB call_len_seq (by rfl) T.m_len (by decide +kernel) (pa_cons (pv 0) pa_nil))) (pa_cons (pe_op op_mul pe_int (pv 3)) (pa_cons pe_non pa_nil)))) pa_nil))))
    pss_nil)
    (pss_cons (ps_for PassesOwn.never rfl (pi_list (pe_callB (cr_sortedSet rfl) (by rfl) T.m_sorted (by decide +kernel) (pa_cons (pe_callTy (cr_setL rfl) (by rfl) T.m_set (by decide +kernel) (pa_cons (pv 7) pa_nil)) pa_nil))) (pg_name (i := 9) sc_lines_between.nd rfl (.inl rfl))
    (pss_one (ps_if (pt_val (pe_ix ix_list (pv 2) (pv 9) (fun _ _ => rfl)))
    (pss_one (ps_expr (pe_bm PySem.F.plainAttrs_list PySem.F.slot_list_append PySem.F.type_list_append mt_append (pv 5) (pa_cons (pe_tup (pa_cons (pe_op op_add (pe_op op_mul pe_int (pv 9)) pe_int) (pa_cons (pe_op op_mul pe_int (pv 3)) (pa_cons pe_non pa_nil)))) pa_nil))))
    pss_nil)))
    (pss_one (ps_if (pt_cmp (pc_din hu (pv 3) (pv 4)))
    (pss_one (ps_expr (pe_bm PySem.F.plainAttrs_list PySem.F.slot_list_append PySem.F.type_list_append mt_append (pv 5) (pa_cons (pe_tup (pa_cons (pe_op op_add (pe_op op_mul pe_int (pv 3)) pe_int) (pa_cons (pe_op op_add (pe_op op_mul pe_int (pe_callB call_len_seq (by rfl) T.m_len (by decide +kernel) (pa_cons (pv 0) pa_nil))) pe_int) (pa_cons pe_non pa_nil)))) pa_nil))))
    pss_nil))))))
    pss_nil)))
    (pss_one (ps_ret (pv 5))))))), ?_⟩
      walk_at "s"
      refine ⟨a, k, rs, ws, rfl, hR, hW, hn, .inl hk, hw, fun l H0 smL nl hl0 => ?_⟩
      have hk0 := smL _ _ hk
      walk_at "s"
      rename_i D hD
      refine dc_list (xs := ws.map V.int) (fun i H1 => Same H0 H1 ∧ H1 l = some (.lst (livV rs ws)) ∧ ∃ kvs, H1 D = some (.dK kvs) ∧ kvs.length ≤ (ws.take i).length ∧ ∀ x : Int, (valV kvs (Sum.inl x : Key)).isSome = decide (x ∈ ws.take i)) ?_ ?_ ?_ ?_
      · exact ⟨same_new hD, hp_new hl0 hD, [], upd_same, Nat.le_refl _, fun x => by simp [valV_nil]⟩
      · intro i H1 hi hP
        have hk1 := smL _ _ hk
        first | exact SqL.of (hP.1 _ _ hk1) | exact SqT.of (hP.1 _ _ hk1)
      · intro i x H1 hi hP
        obtain ⟨sm, hl1, kvs, h1, h2, h3⟩ := hP
        obtain ⟨v, rfl, hv⟩ := map_get hi
        walk_at "s"
        have hl : i < ws.length := (List.getElem?_eq_some_iff.mp hv).1
        rw [List.length_take] at h2
        have nlD : l ≠ D := ne_of_none hl0 hD
        refine ⟨kvs, Sum.inl v, rfl, h1, sz_less (by omega), same_mut sm hD, (upd_ne nlD).trans hl1, _, upd_same, ?_, fun x => ?_⟩
        · refine Nat.le_trans (putK_le _ _ _) ?_
          rw [List.length_take]
          omega
        · rw [take_snoc hv]
          exact has_put (h3 x)
      · intro H1 hP
        obtain ⟨sm, hl1, hh⟩ := hP
        rw [List.length_map, List.take_length] at hh
        have smH := smL.trans sm
        have hX1 := smH _ _ hX
        have hXl := hE.len
        obtain ⟨kvs, h1, h2, h3⟩ := hh
        walk_at "s"
        rename_i C hC
        have nC : H C = none := smH.free hC
        have nlC : l ≠ C := ne_of_none hl1 hC
        have nDC : D ≠ C := ne_of_none h1 hC
        refine for_rangeQ (lo := 0) (n := ((xs.length : Int)).toNat) Q rfl (fun i σ H2 => ∃ (v3 v6 v7 v8 v9 : Option V), σ = [some (.ref a), some (.ref k), some (.ref l), v3, some (.ref D), some (.ref C), v6, v7, v8, v9] ∧ Grow H l D C (livV rs ws) kvs H2 (arcsN rs ws i)) ?_ ?_ ?_
        · exact ⟨_, _, _, _, _, rfl, smH.trans (same_new hC), hp_new hl1 hC, hp_new h1 hC, nlC, nDC, [], upd_same, .nil⟩
        · intro N X i σ H2 hi hP hN
          obtain ⟨v3, v6, v7, v8, v9, rfl, g⟩ := hP
          have hi' : i < rs.length := by
            rw [← hE.len]
            omega
          have er : rs[i]? = some rs[i] := List.getElem?_eq_getElem hi'
          obtain ⟨u, eu, t, o, rfl, ht, ho⟩ := hE.get er
          obtain ⟨sm2, hl2, hD2, _, _, ys, hC2, hE2⟩ := id g
          have hX2 := sm2 _ _ hX
          have ht2 := sm2 _ _ ht
          have ho0 : H o = some (.lst (rs[i].ops.map V.int)) := ho
          have ho2 := sm2 _ _ ho0
          have hok := hW i _ er
          have hat := atI_nat eu
          have hatL := livV_at (rs := rs) (ws := ws) hi'
          have hyl : ys.length ≤ 3000 := by rw [hE2.len]; exact arcsN_le (by omega) hn
          have eb : liv rs ws (i : Int) = true → blk rs ws i = ⟨2 * i, 2 * i + 1, some rs[i].sz⟩ :: ((if rs[i].src = true then [⟨2 * rs.length, 2 * i, none⟩] else []) ++ (((sops rs rs[i]).filter fun (k : Nat) => liv rs ws (k : Int)).map fun k => ⟨2 * k + 1, 2 * i, none⟩) ++ (if (i : Int) ∈ ws then [⟨2 * i + 1, 2 * rs.length + 1, none⟩] else [])) := fun l => by
            unfold blk
            rw [er]
            exact if_pos l
          have eb0 : liv rs ws (i : Int) = false → blk rs ws i = [] := fun l => by
            unfold blk
            rw [er]
            show (if liv rs ws (i : Int) = true then _ else []) = []
            rw [l]
            rfl
          simp only [Int.zero_add]
          have eops := fun (ns : List Int) => sops_is hW er (ns := ns)
          have mops := fun (y : Nat) => mem_sops hW er (k := y)
          generalize rs[i] = r at ht2 ho0 ho2 hok eb eops mops
          walk_at "s"
          · rename_i e p hp
            have g1 := g.put nC hC2 hp (x := 2 * (i : Int)) (y := 2 * (i : Int) + 1) (c := .int r.sz) ⟨2 * i, 2 * i + 1, some r.sz⟩ (by push_cast; rfl) (by push_cast; rfl) rfl
            have eb := eb e
            clear g hC2 hE2 hl2 hD2
            generalize upd (upd H2 p (.tup [.int (2 * (i : Int)), .int (2 * (i : Int) + 1), .int r.sz])) C (.lst (ys ++ [.ref p])) = H3 at g1 ⊢
            obtain ⟨sm3, hl3, hD3, _, _, ys3, hC3, hE3⟩ := id g1
            have hX3 := sm3 _ _ hX
            have ho3 := sm3 _ _ ho0
            have hyl3 : ys3.length ≤ 3001 := by
              have := arcsN_le (rs := rs) (ws := ws) (n := i) (by omega) hn
              rw [hE3.len, List.length_append, List.length_singleton]
              omega
            refine go_cutM (fun σ' H' => σ' = [some (.ref a), some (.ref k), some (.ref l), some (.int (i : Int)), some (.ref D), some (.ref C), some (.int r.sz), some (.ref o), some (.bl r.src), v9] ∧ Grow H l D C (livV rs ws) kvs H' (arcsN rs ws i ++ [⟨2 * i, 2 * i + 1, some r.sz⟩] ++ (if r.src = true then [⟨2 * rs.length, 2 * i, none⟩] else []))) ?_ fun σ' H' hM => ?_
            · walk_at "s"
              · rename_i es p2 hp2
                rw [es, if_pos rfl]
                exact g1.put nC hC3 hp2 ⟨2 * rs.length, 2 * i, none⟩ (by rw [hXl]; push_cast; rfl) (by push_cast; rfl) rfl
              · rename_i es
                rw [if_neg es, List.append_nil]
                exact g1.2.2.2.2.2
            · obtain ⟨rfl, g4⟩ := hM
              obtain ⟨sm4, hl4, hD4, _, _, ys4, hC4, hE4⟩ := id g4
              have hX4 := sm4 _ _ hX
              have ho4 := sm4 _ _ ho0
              clear g1 hC3 hE3 hl3 hD3 hX3 ho3 sm3 hyl3
              have hol := hok.2.2.2
              walk_at "s"
              intro Z c hZ hc
              walk_at "s"
              refine ⟨Z, _, _, rfl, upd_same, by omega, fun ns p hp hm hl hpn => ?_⟩
              have en := eops ns hp fun x => by rw [hm x, decide_eq_true_eq]
              have s4 := (same_new (o := SetO w Z (fun j => decide (j ∈ r.ops)) c) hZ).trans (same_new (o := .lst (ns.map V.int)) hpn)
              have hp5 : upd (upd H' Z (SetO w Z (fun j => decide (j ∈ r.ops)) c)) p (.lst (ns.map V.int)) p = some (.lst (ns.map V.int)) := upd_same
              have npC : p ≠ C := (ne_of_none hC4 ((same_new (o := SetO w Z (fun j => decide (j ∈ r.ops)) c) hZ).free hpn)).symm
              have g5 := g4.new s4
              clear g4 hC4 hE4 hl4 hD4 hX4 ho4 sm4
              subst en
              walk_at "s"
              refine for_listQ (xs := ((sops rs r).map fun k : Nat => (k : Int)).map V.int) Q rfl (fun j σ H6 => ∃ (v9 : Option V), σ = [some (.ref a), some (.ref k), some (.ref l), some (.int (i : Int)), some (.ref D), some (.ref C), some (.int r.sz), some (.ref o), some (.bl r.src), v9] ∧ H6 p = some (.lst (((sops rs r).map fun k : Nat => (k : Int)).map V.int)) ∧ Grow H l D C (livV rs ws) kvs H6 (arcsN rs ws i ++ [⟨2 * i, 2 * i + 1, some r.sz⟩] ++ (if r.src = true then [⟨2 * rs.length, 2 * i, none⟩] else []) ++ ((((sops rs r).take j).filter fun (k : Nat) => liv rs ws (k : Int)).map fun k => ⟨2 * k + 1, 2 * i, none⟩))) ?_ ?_ ?_ ?_
              · exact ⟨_, rfl, hp5, by show Grow _ _ _ _ _ _ _ (_ ++ []); rw [List.append_nil]; exact g5⟩
              · intro j σ H6 hj hP
                obtain ⟨v9, rfl, hp6, _⟩ := hP
                exact SqL.of hp6
              · intro N2 X2 j x σ H6 hj hP hN2
                obtain ⟨v9, rfl, hp6, g6⟩ := hP
                rw [List.map_map] at hj
                obtain ⟨y, rfl, hy⟩ := map_get hj
                have hym := (mops _).mp (List.mem_of_getElem? hy)
                have hyl2 := hok.2.1 _ hym
                have hatY := livV_at (rs := rs) (ws := ws) (n := y) (by omega)
                obtain ⟨sm6, hl6, hD6, _, _, ys6, hC6, hE6⟩ := id g6
                have hjl := (List.getElem?_eq_some_iff.mp hy).1
                have hyz : ys6.length ≤ 3030 := by
                  have a1 := arcsN_le (rs := rs) (ws := ws) (n := i) (by omega) hn
                  have a2 := sops_len (rs := rs) (r := r) hn
                  have a3 : (if r.src = true then [(⟨2 * rs.length, 2 * i, none⟩ : Ar)] else []).length ≤ 1 := by split <;> simp
                  have a4 := List.length_filter_le (fun (k : Nat) => liv rs ws (k : Int)) ((sops rs r).take j)
                  rw [List.length_take] at a4
                  rw [hE6.len, List.length_append, List.length_append, List.length_append, List.length_singleton, List.length_map]
                  omega
                walk_at "s"
                · rename_i ey q2 hq2
                  have npq : p ≠ q2 := ne_of_none hp6 hq2
                  refine hN2 _ _ ⟨_, rfl, (upd_ne npC).trans (hp_new hp6 hq2), ?_⟩
                  rw [take_snoc hy, List.filter_append, List.map_append, ← List.append_assoc]
                  have : [y].filter (fun (k : Nat) => liv rs ws (k : Int)) = [y] := by
                    rw [List.filter_cons, if_pos ey]
                    rfl
                  rw [this]
                  exact g6.put nC hC6 hq2 ⟨2 * y + 1, 2 * i, none⟩ (by push_cast; rfl) (by push_cast; rfl) rfl
                · rename_i ey
                  refine hN2 _ _ ⟨_, rfl, hp6, ?_⟩
                  rw [take_snoc hy, List.filter_append]
                  have : [y].filter (fun (k : Nat) => liv rs ws (k : Int)) = [] := by
                    rw [List.filter_cons, if_neg ey]
                    rfl
                  rw [this, List.append_nil]
                  exact g6
              · intro σ H6 hP
                obtain ⟨v9, rfl, hp6, g6⟩ := hP
                rw [List.length_map, List.length_map, List.take_length] at g6
                obtain ⟨sm6, hl6, hD6, _, _, ys6, hC6, hE6⟩ := id g6
                have hX6 := sm6 _ _ hX
                have hyz : ys6.length ≤ 3030 := by
                  have a1 := arcsN_le (rs := rs) (ws := ws) (n := i) (by omega) hn
                  have a2 := sops_len (rs := rs) (r := r) hn
                  have a3 : (if r.src = true then [(⟨2 * rs.length, 2 * i, none⟩ : Ar)] else []).length ≤ 1 := by split <;> simp
                  have a4 := List.length_filter_le (fun (k : Nat) => liv rs ws (k : Int)) (sops rs r)
                  rw [hE6.len, List.length_append, List.length_append, List.length_append, List.length_singleton, List.length_map]
                  omega
                walk_at "s"
                refine ⟨D, _, rfl, DGet.k (k := Sum.inl (i : Int)) hD6, ?_⟩
                rw [h3]
                refine ⟨_, rfl, ?_⟩
                by_cases ew : (i : Int) ∈ ws
                · rw [decide_eq_true ew]
                  refine iteT ?_
                  walk_at "s"
                  rename_i q2 hq2
                  refine hN _ _ ⟨_, _, _, _, _, rfl, ?_⟩
                  have g7 := g6.put nC hC6 hq2 (x := 2 * (i : Int) + 1) (y := 2 * (xs.length : Int) + 1) (c := .non) ⟨2 * i + 1, 2 * rs.length + 1, none⟩ (by push_cast; rfl) (by rw [hXl]; push_cast; rfl) rfl
                  rw [arcsN_succ, eb, if_pos ew]
                  simpa only [List.append_assoc, List.cons_append, List.nil_append] using g7
                · rw [decide_eq_false ew]
                  refine iteF ?_
                  walk_at "s"
                  refine hN _ _ ⟨_, _, _, _, _, rfl, ?_⟩
                  rw [arcsN_succ, eb, if_neg ew, List.append_nil]
                  simpa only [List.append_assoc, List.cons_append, List.nil_append] using g6
          · rename_i e
            exact hN _ _ ⟨_, _, _, _, _, rfl, by rw [arcsN_succ, eb0 (by simpa using e), List.append_nil]; exact g⟩
        · intro σ H2 hP
          obtain ⟨v3, v6, v7, v8, v9, rfl, g⟩ := hP
          rw [show ((xs.length : Int)).toNat = rs.length from by omega] at g
          obtain ⟨sm2, hl2, hD2, _, _, hA⟩ := g
          walk_at "s"
          exact q C H2 sm2 nC hA
    · refine ⟨_, (pss_cons (ps_set (i := 2) sc_lines_between.nd rfl (.inl rfl) (pe_call G_living (hr.mono (by omega)) (by rfl) T.m_living T.F_living.kp T.b_living .nil pass0 (pa_cons (pv 0) (pa_cons (pv 1) pa_nil))))
    (pss_cons (ps_setDc (i := 4) (own := [("node", 3)]) rfl sc_lines_between.nd rfl rfl (sw_trueD rfl rfl rfl (by decide +kernel)) (pi_tup (pv 1)) (blkOk_by (own := [("node", 3)]) (N := ["rows", "wanted", "alive", "node", "goals", "arcs", "size", "operands", "source", "operand"]) (sc := defScope s_lines_between) (by decide +kernel)) (fun _ _ _ _ _ => (pg_name (i := 3) sc_lines_between.nd rfl (.inl rfl))) (fun _ _ _ _ _ => pts_nil) (fun _ _ _ _ _ => (pv 3)) (fun _ _ _ _ _ => pe_bl))
    (pss_cons (ps_set (i := 5) sc_lines_between.nd rfl (.inl rfl) (pe_lst pa_nil))
    (pss_cons (ps_for PassesOwn.never rfl (pi_range1 rfl T.m_range (pa_cons (pe_callB call_len_seq (by rfl) T.m_len (by decide +kernel) (pa_cons (pv 0) pa_nil)) pa_nil)) (pg_name (i := 3) sc_lines_between.nd rfl (.inl rfl))
    (pss_one (ps_if (pt_val (pe_ix ix_list (pv 2) (pv 3) (fun _ _ => rfl)))
    (pss_cons (ps_asg (pe_ix ix_list (pv 0) (pv 3) (fun _ _ => rfl)) (pg_tup rfl (pgs_cons (pg_name (i := 6) sc_lines_between.nd rfl (.inl rfl)) (pgs_cons (pg_name (i := 7) sc_lines_between.nd rfl (.inl rfl)) (pgs_cons (pg_name (i := 8) sc_lines_between.nd rfl (.inl rfl)) pgs_nil)))))
    (pss_cons (ps_expr (pe_bm PySem.F.plainAttrs_list PySem.F.slot_list_append PySem.F.type_list_append mt_append (pv 5) (pa_cons (pe_tup (pa_cons (pe_op op_mul pe_int (pv 3)) (pa_cons (pe_op op_add (pe_op op_mul pe_int (pv 3)) pe_int) (pa_cons (pv 6) pa_nil)))) pa_nil)))
    (Evl.pss_cut (ps_if (pt_val (pv 8))
    (pss_one (ps_expr (pe_bm PySem.F.plainAttrs_list PySem.F.slot_list_append PySem.F.type_list_append mt_append (pv 5) (pa_cons (pe_tup (pa_cons (pe_op op_mul pe_int (pe_callB call_len_seq (by rfl) T.m_len (by decide +kernel) (pa_cons (pv 0) pa_nil))) (pa_cons (pe_op op_mul pe_int (pv 3)) (pa_cons pe_non pa_nil)))) pa_nil))))
    pss_nil)
    (pss_cons (ps_for PassesOwn.never rfl (pi_list (pe_callB (cr_sortedSet rfl) (by rfl) T.m_sorted (by decide +kernel) (pa_cons (pe_callTy (cr_setL rfl) (by rfl) T.m_set (by decide +kernel) (pa_cons (pv 7) pa_nil)) pa_nil))) (pg_name (i := 9) sc_lines_between.nd rfl (.inl rfl))
    (pss_one (ps_if (pt_val (pe_ix ix_list (pv 2) (pv 9) (fun _ _ => rfl)))
    (pss_one (ps_expr (pe_bm PySem.F.plainAttrs_list PySem.F.slot_list_append PySem.F.type_list_append mt_append (pv 5) (pa_cons (pe_tup (pa_cons (pe_op op_add (pe_op op_mul pe_int (pv 9)) pe_int) (pa_cons (pe_op op_mul pe_int (pv 3)) (pa_cons pe_non pa_nil)))) pa_nil))))
    pss_nil)))
    (pss_one (ps_if (pt_cmp (pc_din hu (pv 3) (pv 4)))
    (pss_one (ps_expr (pe_bm PySem.F.plainAttrs_list PySem.F.slot_list_append PySem.F.type_list_append mt_append (pv 5) (pa_cons (pe_tup (pa_cons (pe_op op_add (pe_op op_mul pe_int (pv 3)) pe_int) (pa_cons (pe_op op_add (pe_op op_mul pe_int (pe_callB call_len_seq (by rfl) T.m_len (by decide +kernel) (pa_cons (pv 0) pa_nil))) pe_int) (pa_cons pe_non pa_nil)))) pa_nil))))
    pss_nil))))))
    pss_nil)))
    (pss_one (ps_ret (pv 5))))))), ?_⟩
      walk_at "s"
      refine ⟨a, k, rs, ws, rfl, hR, hW, hn, .inr hk, hw, fun l H0 smL nl hl0 => ?_⟩
      have hk0 := smL _ _ hk
      walk_at "s"
      rename_i D hD
      refine dc_tup (xs := ws.map V.int) (fun i H1 => Same H0 H1 ∧ H1 l = some (.lst (livV rs ws)) ∧ ∃ kvs, H1 D = some (.dK kvs) ∧ kvs.length ≤ (ws.take i).length ∧ ∀ x : Int, (valV kvs (Sum.inl x : Key)).isSome = decide (x ∈ ws.take i)) ?_ ?_ ?_ ?_
      · exact ⟨same_new hD, hp_new hl0 hD, [], upd_same, Nat.le_refl _, fun x => by simp [valV_nil]⟩
      · intro i H1 hi hP
        have hk1 := smL _ _ hk
        first | exact SqL.of (hP.1 _ _ hk1) | exact SqT.of (hP.1 _ _ hk1)
      · intro i x H1 hi hP
        obtain ⟨sm, hl1, kvs, h1, h2, h3⟩ := hP
        obtain ⟨v, rfl, hv⟩ := map_get hi
        walk_at "s"
        have hl : i < ws.length := (List.getElem?_eq_some_iff.mp hv).1
        rw [List.length_take] at h2
        have nlD : l ≠ D := ne_of_none hl0 hD
        refine ⟨kvs, Sum.inl v, rfl, h1, sz_less (by omega), same_mut sm hD, (upd_ne nlD).trans hl1, _, upd_same, ?_, fun x => ?_⟩
        · refine Nat.le_trans (putK_le _ _ _) ?_
          rw [List.length_take]
          omega
        · rw [take_snoc hv]
          exact has_put (h3 x)
      · intro H1 hP
        obtain ⟨sm, hl1, hh⟩ := hP
        rw [List.length_map, List.take_length] at hh
        have smH := smL.trans sm
        have hX1 := smH _ _ hX
        have hXl := hE.len
        obtain ⟨kvs, h1, h2, h3⟩ := hh
        walk_at "s"
        rename_i C hC
        have nC : H C = none := smH.free hC
        have nlC : l ≠ C := ne_of_none hl1 hC
        have nDC : D ≠ C := ne_of_none h1 hC
        refine for_rangeQ (lo := 0) (n := ((xs.length : Int)).toNat) Q rfl (fun i σ H2 => ∃ (v3 v6 v7 v8 v9 : Option V), σ = [some (.ref a), some (.ref k), some (.ref l), v3, some (.ref D), some (.ref C), v6, v7, v8, v9] ∧ Grow H l D C (livV rs ws) kvs H2 (arcsN rs ws i)) ?_ ?_ ?_
        · exact ⟨_, _, _, _, _, rfl, smH.trans (same_new hC), hp_new hl1 hC, hp_new h1 hC, nlC, nDC, [], upd_same, .nil⟩
        · intro N X i σ H2 hi hP hN
          obtain ⟨v3, v6, v7, v8, v9, rfl, g⟩ := hP
          have hi' : i < rs.length := by
            rw [← hE.len]
            omega
          have er : rs[i]? = some rs[i] := List.getElem?_eq_getElem hi'
          obtain ⟨u, eu, t, o, rfl, ht, ho⟩ := hE.get er
          obtain ⟨sm2, hl2, hD2, _, _, ys, hC2, hE2⟩ := id g
          have hX2 := sm2 _ _ hX
          have ht2 := sm2 _ _ ht
          have ho0 : H o = some (.lst (rs[i].ops.map V.int)) := ho
          have ho2 := sm2 _ _ ho0
          have hok := hW i _ er
          have hat := atI_nat eu
          have hatL := livV_at (rs := rs) (ws := ws) hi'
          have hyl : ys.length ≤ 3000 := by rw [hE2.len]; exact arcsN_le (by omega) hn
          have eb : liv rs ws (i : Int) = true → blk rs ws i = ⟨2 * i, 2 * i + 1, some rs[i].sz⟩ :: ((if rs[i].src = true then [⟨2 * rs.length, 2 * i, none⟩] else []) ++ (((sops rs rs[i]).filter fun (k : Nat) => liv rs ws (k : Int)).map fun k => ⟨2 * k + 1, 2 * i, none⟩) ++ (if (i : Int) ∈ ws then [⟨2 * i + 1, 2 * rs.length + 1, none⟩] else [])) := fun l => by
            unfold blk
            rw [er]
            exact if_pos l
          have eb0 : liv rs ws (i : Int) = false → blk rs ws i = [] := fun l => by
            unfold blk
            rw [er]
            show (if liv rs ws (i : Int) = true then _ else []) = []
            rw [l]
            rfl
          simp only [Int.zero_add]
          have eops := fun (ns : List Int) => sops_is hW er (ns := ns)
          have mops := fun (y : Nat) => mem_sops hW er (k := y)
          generalize rs[i] = r at ht2 ho0 ho2 hok eb eops mops
          walk_at "s"
          · rename_i e p hp
            have g1 := g.put nC hC2 hp (x := 2 * (i : Int)) (y := 2 * (i : Int) + 1) (c := .int r.sz) ⟨2 * i, 2 * i + 1, some r.sz⟩ (by push_cast; rfl) (by push_cast; rfl) rfl
            have eb := eb e
            clear g hC2 hE2 hl2 hD2
            generalize upd (upd H2 p (.tup [.int (2 * (i : Int)), .int (2 * (i : Int) + 1), .int r.sz])) C (.lst (ys ++ [.ref p])) = H3 at g1 ⊢
            obtain ⟨sm3, hl3, hD3, _, _, ys3, hC3, hE3⟩ := id g1
            have hX3 := sm3 _ _ hX
            have ho3 := sm3 _ _ ho0
            have hyl3 : ys3.length ≤ 3001 := by
              have := arcsN_le (rs := rs) (ws := ws) (n := i) (by omega) hn
              rw [hE3.len, List.length_append, List.length_singleton]
              omega
            refine go_cutM (fun σ' H' => σ' = [some (.ref a), some (.ref k), some (.ref l), some (.int (i : Int)), some (.ref D), some (.ref C), some (.int r.sz), some (.ref o), some (.bl r.src), v9] ∧ Grow H l D C (livV rs ws) kvs H' (arcsN rs ws i ++ [⟨2 * i, 2 * i + 1, some r.sz⟩] ++ (if r.src = true then [⟨2 * rs.length, 2 * i, none⟩] else []))) ?_ fun σ' H' hM => ?_
            · walk_at "s"
              · rename_i es p2 hp2
                rw [es, if_pos rfl]
                exact g1.put nC hC3 hp2 ⟨2 * rs.length, 2 * i, none⟩ (by rw [hXl]; push_cast; rfl) (by push_cast; rfl) rfl
              · rename_i es
                rw [if_neg es, List.append_nil]
                exact g1.2.2.2.2.2
            · obtain ⟨rfl, g4⟩ := hM
              obtain ⟨sm4, hl4, hD4, _, _, ys4, hC4, hE4⟩ := id g4
              have hX4 := sm4 _ _ hX
              have ho4 := sm4 _ _ ho0
              clear g1 hC3 hE3 hl3 hD3 hX3 ho3 sm3 hyl3
              have hol := hok.2.2.2
              walk_at "s"
              intro Z c hZ hc
              walk_at "s"
              refine ⟨Z, _, _, rfl, upd_same, by omega, fun ns p hp hm hl hpn => ?_⟩
              have en := eops ns hp fun x => by rw [hm x, decide_eq_true_eq]
              have s4 := (same_new (o := SetO w Z (fun j => decide (j ∈ r.ops)) c) hZ).trans (same_new (o := .lst (ns.map V.int)) hpn)
              have hp5 : upd (upd H' Z (SetO w Z (fun j => decide (j ∈ r.ops)) c)) p (.lst (ns.map V.int)) p = some (.lst (ns.map V.int)) := upd_same
              have npC : p ≠ C := (ne_of_none hC4 ((same_new (o := SetO w Z (fun j => decide (j ∈ r.ops)) c) hZ).free hpn)).symm
              have g5 := g4.new s4
              clear g4 hC4 hE4 hl4 hD4 hX4 ho4 sm4
              subst en
              walk_at "s"
              refine for_listQ (xs := ((sops rs r).map fun k : Nat => (k : Int)).map V.int) Q rfl (fun j σ H6 => ∃ (v9 : Option V), σ = [some (.ref a), some (.ref k), some (.ref l), some (.int (i : Int)), some (.ref D), some (.ref C), some (.int r.sz), some (.ref o), some (.bl r.src), v9] ∧ H6 p = some (.lst (((sops rs r).map fun k : Nat => (k : Int)).map V.int)) ∧ Grow H l D C (livV rs ws) kvs H6 (arcsN rs ws i ++ [⟨2 * i, 2 * i + 1, some r.sz⟩] ++ (if r.src = true then [⟨2 * rs.length, 2 * i, none⟩] else []) ++ ((((sops rs r).take j).filter fun (k : Nat) => liv rs ws (k : Int)).map fun k => ⟨2 * k + 1, 2 * i, none⟩))) ?_ ?_ ?_ ?_
              · exact ⟨_, rfl, hp5, by show Grow _ _ _ _ _ _ _ (_ ++ []); rw [List.append_nil]; exact g5⟩
              · intro j σ H6 hj hP
                obtain ⟨v9, rfl, hp6, _⟩ := hP
                exact SqL.of hp6
              · intro N2 X2 j x σ H6 hj hP hN2
                obtain ⟨v9, rfl, hp6, g6⟩ := hP
                rw [List.map_map] at hj
                obtain ⟨y, rfl, hy⟩ := map_get hj
                have hym := (mops _).mp (List.mem_of_getElem? hy)
                have hyl2 := hok.2.1 _ hym
                have hatY := livV_at (rs := rs) (ws := ws) (n := y) (by omega)
                obtain ⟨sm6, hl6, hD6, _, _, ys6, hC6, hE6⟩ := id g6
                have hjl := (List.getElem?_eq_some_iff.mp hy).1
                have hyz : ys6.length ≤ 3030 := by
                  have a1 := arcsN_le (rs := rs) (ws := ws) (n := i) (by omega) hn
                  have a2 := sops_len (rs := rs) (r := r) hn
                  have a3 : (if r.src = true then [(⟨2 * rs.length, 2 * i, none⟩ : Ar)] else []).length ≤ 1 := by split <;> simp
                  have a4 := List.length_filter_le (fun (k : Nat) => liv rs ws (k : Int)) ((sops rs r).take j)
                  rw [List.length_take] at a4
                  rw [hE6.len, List.length_append, List.length_append, List.length_append, List.length_singleton, List.length_map]
                  omega
                walk_at "s"
                · rename_i ey q2 hq2
                  have npq : p ≠ q2 := ne_of_none hp6 hq2
                  refine hN2 _ _ ⟨_, rfl, (upd_ne npC).trans (hp_new hp6 hq2), ?_⟩
                  rw [take_snoc hy, List.filter_append, List.map_append, ← List.append_assoc]
                  have : [y].filter (fun (k : Nat) => liv rs ws (k : Int)) = [y] := by
                    rw [List.filter_cons, if_pos ey]
                    rfl
                  rw [this]
                  exact g6.put nC hC6 hq2 ⟨2 * y + 1, 2 * i, none⟩ (by push_cast; rfl) (by push_cast; rfl) rfl
                · rename_i ey
                  refine hN2 _ _ ⟨_, rfl, hp6, ?_⟩
                  rw [take_snoc hy, List.filter_append]
                  have : [y].filter (fun (k : Nat) => liv rs ws (k : Int)) = [] := by
                    rw [List.filter_cons, if_neg ey]
                    rfl
                  rw [this, List.append_nil]
                  exact g6
              · intro σ H6 hP
                obtain ⟨v9, rfl, hp6, g6⟩ := hP
                rw [List.length_map, List.length_map, List.take_length] at g6
                obtain ⟨sm6, hl6, hD6, _, _, ys6, hC6, hE6⟩ := id g6
                have hX6 := sm6 _ _ hX
                have hyz : ys6.length ≤ 3030 := by
                  have a1 := arcsN_le (rs := rs) (ws := ws) (n := i) (by omega) hn
                  have a2 := sops_len (rs := rs) (r := r) hn
                  have a3 : (if r.src = true then [(⟨2 * rs.length, 2 * i, none⟩ : Ar)] else []).length ≤ 1 := by split <;> simp
                  have a4 := List.length_filter_le (fun (k : Nat) => liv rs ws (k : Int)) (sops rs r)
                  rw [hE6.len, List.length_append, List.length_append, List.length_append, List.length_singleton, List.length_map]
                  omega
                walk_at "s"
                refine ⟨D, _, rfl, DGet.k (k := Sum.inl (i : Int)) hD6, ?_⟩
                rw [h3]
                refine ⟨_, rfl, ?_⟩
                by_cases ew : (i : Int) ∈ ws
                · rw [decide_eq_true ew]
                  refine iteT ?_
                  walk_at "s"
                  rename_i q2 hq2
                  refine hN _ _ ⟨_, _, _, _, _, rfl, ?_⟩
                  have g7 := g6.put nC hC6 hq2 (x := 2 * (i : Int) + 1) (y := 2 * (xs.length : Int) + 1) (c := .non) ⟨2 * i + 1, 2 * rs.length + 1, none⟩ (by push_cast; rfl) (by rw [hXl]; push_cast; rfl) rfl
                  rw [arcsN_succ, eb, if_pos ew]
                  simpa only [List.append_assoc, List.cons_append, List.nil_append] using g7
                · rw [decide_eq_false ew]
                  refine iteF ?_
                  walk_at "s"
                  refine hN _ _ ⟨_, _, _, _, _, rfl, ?_⟩
                  rw [arcsN_succ, eb, if_neg ew, List.append_nil]
                  simpa only [List.append_assoc, List.cons_append, List.nil_append] using g6
          · rename_i e
            exact hN _ _ ⟨_, _, _, _, _, rfl, by rw [arcsN_succ, eb0 (by simpa using e), List.append_nil]; exact g⟩
        · intro σ H2 hP
          obtain ⟨v3, v6, v7, v8, v9, rfl, g⟩ := hP
          rw [show ((xs.length : Int)).toNat = rs.length from by omega] at g
          obtain ⟨sm2, hl2, hD2, _, _, hA⟩ := g
          walk_at "s"
          exact q C H2 sm2 nC hA
end
end K15W
set_option Elab.async false
set_option linter.all false
set_option maxRecDepth 100000
set_option maxHeartbeats 4000000
namespace K15W
open PySem PySem.Spec PyProof.Rows L2 TL LW NT FL NF
local macro_rules | `(tactic| walk_at "ne") => `(tactic| first
  | (with_reducible assumption)
  | exact Ne.symm (by assumption)
  | (with_reducible exact ne_of_none (by assumption) (by assumption))
  | (with_reducible exact (ne_of_none (by assumption) (by assumption)).symm)
  | (apply ne_of_none; (case h' => assumption); (case h => walk_at "hp"))
  | (apply Ne.symm; apply ne_of_none; (case h' => assumption); (case h => walk_at "hp")))
local macro_rules | `(tactic| walk_at "hp") => `(tactic| first
  | (with_reducible assumption)
  | exact upd_same
  | (with_reducible exact hp_new (by assumption) (by assumption))
  | (apply hp_new; (case n => assumption); (case h => walk_at "hp"))
  | (refine (upd_ne ?ne).trans ?hp; (case ne => walk_at "ne"); (case hp => walk_at "hp")))
local macro_rules | `(tactic| walk_at "sq") => `(tactic| first
  | ((with_reducible show SqL _ _ _ _); assumption)
  | ((with_reducible show SqT _ _ _ _); assumption)
  | exact SqL.of (by assumption)
  | exact SqL.of upd_same
  | exact SqT.of (by assumption)
  | exact SqT.of upd_same
  | (apply SqL.of; walk_at "hp")
  | (apply SqT.of; walk_at "hp"))
local macro_rules | `(tactic| walk_at "len") => `(tactic| first
  | (with_reducible assumption)
  | exact sz_small (by omega)
  | exact sz_less (by omega)
  | decide
  | (refine sz_small ?_; simp only [List.length_append, List.length_cons, List.length_nil, List.length_map, str_len]; omega)
  | (refine sz_less ?_; simp only [List.length_append, List.length_cons, List.length_nil, List.length_map, str_len]; omega))
local macro_rules | `(tactic| walk_at "cond") => `(tactic| first
  | omega
  | (split <;> omega)
  | (with_reducible assumption)
  | exact .inl ⟨by omega, by omega⟩
  | exact .inr ⟨by omega, by omega⟩
  | exact ⟨by omega, by omega⟩
  | (show (0 : Int) < _; omega)
  | (show (0 : Int) < _; decide +kernel)
  | exact ⟨by omega, by omega, by decide⟩
  | walk_at "len"
  | rfl
  | (show CMulW _ _; unfold CMulW; decide +kernel)
  | exact ⟨_, rfl⟩
  | decide +kernel
  | exact ⟨_, by walk_at "sq"⟩
  | exact .inl ⟨rfl, _, by walk_at "sq"⟩)
local macro_rules | `(tactic| walk_at "at") => `(tactic| first
  | (with_reducible assumption)
  | exact atI_nat (by assumption)
  | exact atI_last _ _
  | exact atI_nat (j := 0) rfl
  | exact atI_nat (j := 1) rfl
  | exact atI_nat (j := 2) rfl
  | exact atI_nat (j := 3) rfl
  | exact atI_nat (j := 4) rfl)
local macro_rules | `(tactic| walk_at "ix") => `(tactic| first
  | (with_reducible assumption)
  | (with_reducible exact ixN_0 (by simp; done))
  | (with_reducible exact ixN_1 (by simp; done))
  | (with_reducible exact ixN_2 (by simp; done))
  | (with_reducible exact Evl.ixN_nat (by assumption))
  | (with_reducible exact Evl.ixN_nat (by omega)))
local macro_rules | `(tactic| walk_at "v") => `(tactic| first
  | exact val_var rfl
  | (with_reducible exact val_c)
  | (with_reducible apply val_orV; (case ha => walk_at "v"); (case hb => walk_at "v"))
  | (with_reducible apply val_andV; (case ha => walk_at "v"); (case hb => walk_at "v"))
  | (with_reducible apply val_notV; walk_at "v")
  | (with_reducible apply val_ifS; (case h => walk_at "w"); (case ha => walk_at "v"); (case hb => walk_at "v"))
  | (with_reducible apply val_ifI; (case h => walk_at "w"); (case ha => walk_at "v"); (case hb => walk_at "v"))
  | (with_reducible apply val_ifB; (case h => walk_at "w"); (case ha => walk_at "v"); (case hb => walk_at "v"))
  | (with_reducible apply val_eqS; (case ha => walk_at "v"); (case hb => walk_at "v"))
  | (with_reducible apply val_eqI; (case ha => walk_at "v"); (case hb => walk_at "v"))
  | (with_reducible apply val_neS; (case ha => walk_at "v"); (case hb => walk_at "v"))
  | (with_reducible apply val_neI; (case ha => walk_at "v"); (case hb => walk_at "v"))
  | (with_reducible apply val_op; (case ha => walk_at "v"); (case hb => walk_at "v"); (case hr => exact fun Q q => ⟨_, _, rfl, rfl, q⟩)))
local macro_rules | `(tactic| walk_at "w") => `(tactic| first
  | (with_reducible apply ans_or2; (case h1 => walk_at "w"); (case h2 => walk_at "w"))
  | (with_reducible apply ans_and2; (case h1 => walk_at "w"); (case h2 => walk_at "w"))
  | (with_reducible apply ans_not; walk_at "w")
  | (with_reducible apply ans_test; walk_at "v")
  | (with_reducible apply ans_val; walk_at "v"))
local macro_rules | `(tactic| walk_at "s2") => `(tactic| first
  | refine ⟨_, rfl, ?_⟩
  | refine ⟨_, _, rfl, rfl, ?_⟩
  | (refine And.intro ?cc ?_; (case cc => walk_at "cond"))
  | refine ⟨_, _, _, _, rfl, rfl, by walk_at "sq", by walk_at "at", ?_⟩
  | refine ⟨_, _, _, _, rfl, rfl, by walk_at "hp", by walk_at "ix", ?_⟩
  | refine ⟨_, _, _, _, rfl, rfl, by walk_at "hp", by walk_at "hp", by walk_at "len", ?_⟩
  | refine ⟨_, _, _, rfl, rfl, by walk_at "len", by walk_at "at", ?_⟩
  | refine ⟨_, _, _, rfl, rfl, by walk_at "hp", by walk_at "len", ?_⟩
  | refine ⟨_, _, _, rfl, rfl, by walk_at "hp", by walk_at "at", ?_⟩
  | refine ⟨_, _, rfl, rfl, by walk_at "sq", ?_⟩
  | refine ⟨_, _, rfl, rfl, by walk_at "len", ?_⟩
  | refine ⟨_, _, rfl, by walk_at "sq", ?_⟩
  | refine ⟨_, _, rfl, .inl (by walk_at "sq"), ?_⟩
  | refine ⟨_, _, rfl, .inr (by walk_at "sq"), ?_⟩
  | refine ⟨_, _, rfl, by walk_at "sq", rfl, ?_⟩
  | refine ⟨_, fun _ _ h => h, ?_⟩
  | refine .inl ⟨_, rfl, ?_⟩
  | refine ⟨_, _, .type "int", .type _, true, rfl, ClsV.ty _, .base (.int _), kit_ty (by decide +kernel), ?_⟩
  | refine ⟨_, _, .type "int", .type _, false, rfl, ClsV.ty _, .base (.int _), kit_ty (by decide +kernel), ?_⟩
  | refine ⟨_, _, .type "bool", .type _, true, rfl, ClsV.ty _, .base (.bl _), kit_ty (by decide +kernel), ?_⟩
  | refine ⟨_, _, .type "bool", .type _, false, rfl, ClsV.ty _, .base (.bl _), kit_ty (by decide +kernel), ?_⟩
  | refine ⟨_, _, .type "str", .type _, true, rfl, ClsV.ty _, .base (.str _), kit_ty (by decide +kernel), ?_⟩
  | refine ⟨_, _, .type "str", .type _, false, rfl, ClsV.ty _, .base (.str _), kit_ty (by decide +kernel), ?_⟩
  | refine ⟨_, _, .type "NoneType", .type _, true, rfl, ClsV.ty _, .base (.non), kit_ty (by decide +kernel), ?_⟩
  | refine ⟨_, _, .type "NoneType", .type _, false, rfl, ClsV.ty _, .base (.non), kit_ty (by decide +kernel), ?_⟩
  | refine ⟨_, _, .type "list", .type _, true, rfl, ClsV.ty _, .base (.lst (by walk_at "hp")), kit_ty (by decide +kernel), ?_⟩
  | refine ⟨_, _, .type "list", .type _, false, rfl, ClsV.ty _, .base (.lst (by walk_at "hp")), kit_ty (by decide +kernel), ?_⟩
  | refine ⟨_, _, .type "tuple", .type _, true, rfl, ClsV.ty _, .base (.tup (by walk_at "hp")), kit_ty (by decide +kernel), ?_⟩
  | refine ⟨_, _, .type "tuple", .type _, false, rfl, ClsV.ty _, .base (.tup (by walk_at "hp")), kit_ty (by decide +kernel), ?_⟩
  | fail)
local macro_rules | `(tactic| walk_at "s1") => `(tactic| first
  | (with_reducible refine go_gcons ?_)
  | (with_reducible refine go_gnil ?_)
  | (with_reducible refine go_seqM ?_)
  | (with_reducible refine go_nextM ?_)
  | (with_reducible refine go_contM ?_)
  | (with_reducible refine go_brkM ?_)
  | (with_reducible refine go_retM ?_)
  | (with_reducible refine go_asgM ?_)
  | (with_reducible refine go_test ?_)
  | (with_reducible refine go_rI0 ?_)
  | (with_reducible refine go_op ?_)
  | (with_reducible refine go_var rfl ?_)
  | ((with_reducible show tFor (iRng1 _) _ _ _ _ _); refine (show iRng1 _ _ _ _ from ?_))
  | (with_reducible refine go_rng1 ?_)
  | (with_reducible refine go_c ?_)
  | (with_reducible apply go_pick; (case hs => walk_at "hp"); (case h0 => walk_at "cond"); (case h1 => walk_at "cond"); (case' q => intro k a b c h0 h1))
  | (with_reducible refine go_nil ?_)
  | (with_reducible refine go_cons ?_)
  | (with_reducible refine go_call ?_)
  | (with_reducible refine go_cb ?_)
  | (with_reducible refine go_next ?_)
  | (with_reducible refine go_cont ?_)
  | (with_reducible refine go_ret ?_)
  | (with_reducible refine go_name ?_)
  | (with_reducible refine go_seq ?_)
  | (with_reducible refine go_asg ?_)
  | (with_reducible apply go_or; (case h => walk_at "v"))
  | (with_reducible apply go_and; (case h => walk_at "v"))
  | (with_reducible apply go_andL; (case h => walk_at "v"); (case' h1 => intro e); (case' h2 => intro e))
  | (with_reducible apply go_orL; (case h => walk_at "v"); (case' h1 => intro e); (case' h2 => intro e))
  | (with_reducible apply go_ifE; (case h => walk_at "v"))
  | (with_reducible apply go_ifOr; (case h => walk_at "w"); (case' h1 => intro e); (case' h2 => intro e))
  | (with_reducible apply go_ifAnd; (case h => walk_at "w"); (case' h1 => intro e); (case' h2 => intro e))
  | (with_reducible refine go_min ?_)
  | (with_reducible refine iteT ?_)
  | (with_reducible refine iteF ?_)
  | (with_reducible refine iteD (fun _ => ?_) (fun e => absurd rfl e))
  | (with_reducible refine iteS (fun e => ?_) (fun e => ?_))
  | (with_reducible refine iteI (fun e => ?_) (fun e => ?_))
  | (with_reducible refine iteSn (fun e => ?_) (fun e => ?_))
  | (with_reducible refine iteIn (fun e => ?_) (fun e => ?_))
  | (with_reducible refine iteD (fun e => ?_) (fun e => ?_))
  | (with_reducible refine iteDn (fun e => ?_) (fun e => ?_))
  | (with_reducible refine ite2 (fun e => ?_) (fun e => ?_))
  | (refine fun (p : Addr) (hp : _ = none) => ?_)
  | ((conv => whnf); walk_at "s2")
  | fail)
local macro_rules | `(tactic| walk_at "s") => `(tactic| repeat' (first
  | (with_reducible refine go_gcons ?_)
  | (with_reducible refine go_gnil ?_)
  | (with_reducible refine go_seqM ?_)
  | (with_reducible refine go_nextM ?_)
  | (with_reducible refine go_contM ?_)
  | (with_reducible refine go_brkM ?_)
  | (with_reducible refine go_retM ?_)
  | (with_reducible refine go_asgM ?_)
  | (with_reducible refine go_test ?_)
  | (with_reducible refine go_rI0 ?_)
  | (with_reducible refine go_op ?_)
  | (with_reducible refine go_var rfl ?_)
  | ((with_reducible show tFor (iRng1 _) _ _ _ _ _); refine (show iRng1 _ _ _ _ from ?_))
  | (with_reducible refine go_rng1 ?_)
  | (with_reducible refine go_c ?_)
  | (with_reducible apply go_pick; (case hs => walk_at "hp"); (case h0 => walk_at "cond"); (case h1 => walk_at "cond"); (case' q => intro k a b c h0 h1))
  | (with_reducible refine go_nil ?_)
  | (with_reducible refine go_cons ?_)
  | (with_reducible refine go_call ?_)
  | (with_reducible refine go_cb ?_)
  | (with_reducible refine go_next ?_)
  | (with_reducible refine go_cont ?_)
  | (with_reducible refine go_ret ?_)
  | (with_reducible refine go_name ?_)
  | (with_reducible refine go_seq ?_)
  | (with_reducible refine go_asg ?_)
  | (with_reducible apply go_or; (case h => walk_at "v"))
  | (with_reducible apply go_and; (case h => walk_at "v"))
  | (with_reducible apply go_andL; (case h => walk_at "v"); (case' h1 => intro e); (case' h2 => intro e))
  | (with_reducible apply go_orL; (case h => walk_at "v"); (case' h1 => intro e); (case' h2 => intro e))
  | (with_reducible apply go_ifE; (case h => walk_at "v"))
  | (with_reducible apply go_ifOr; (case h => walk_at "w"); (case' h1 => intro e); (case' h2 => intro e))
  | (with_reducible apply go_ifAnd; (case h => walk_at "w"); (case' h1 => intro e); (case' h2 => intro e))
  | (with_reducible refine go_min ?_)
  | (with_reducible refine iteT ?_)
  | (with_reducible refine iteF ?_)
  | (with_reducible refine iteD (fun _ => ?_) (fun e => absurd rfl e))
  | (with_reducible refine iteS (fun e => ?_) (fun e => ?_))
  | (with_reducible refine iteI (fun e => ?_) (fun e => ?_))
  | (with_reducible refine iteSn (fun e => ?_) (fun e => ?_))
  | (with_reducible refine iteIn (fun e => ?_) (fun e => ?_))
  | (with_reducible refine iteD (fun e => ?_) (fun e => ?_))
  | (with_reducible refine iteDn (fun e => ?_) (fun e => ?_))
  | (with_reducible refine ite2 (fun e => ?_) (fun e => ?_))
  | (refine fun (p : Addr) (hp : _ = none) => ?_)
  | ((conv => whnf); walk_at "s2")
  | fail))

section
variable {P : Program} {w : World} {K : PySem.W.Frag} {mg : Str → Option Value} {base : Heap}
/-! ### the split net -/
def splitF (n : Int) (A L M : Addr) : List (Str × V) := putF "own_amounts" (.ref M) (putF "own_lines" (.ref L) (putF "own_arcs" (.ref A) (putF "own_count" (.int n) [])))
theorem rows_hid {H : Hp} {p a : Addr} {rs : List Rw} {C : Addr} {dx : Addr} {f : List (Str × V)} (h : RowsL H a rs) (hp : H p = some (.ins C dx f)) : RowsL (wo p H) a rs := by
  obtain ⟨xs, h1, h2⟩ := h
  refine ⟨xs, (wo_ne (ne_of h1 hp (by intro z; cases z))).trans h1, h2.mono fun v r hr => ?_⟩
  obtain ⟨t, o, e1, e2, e3⟩ := hr
  have e3 : H o = some (.lst (r.ops.map V.int)) := e3
  exact ⟨t, o, e1, (wo_ne (ne_of e2 hp (by intro z; cases z))).trans e2, (wo_ne (ne_of e3 hp (by intro z; cases z))).trans e3⟩
theorem seq_hid {H : Hp} {p k : Addr} {ks : List Int} {C : Addr} {dx : Addr} {f : List (Str × V)} (h : Seq H k ks) (hp : H p = some (.ins C dx f)) : Seq (wo p H) k ks := by
  rcases h with h | h
  · exact .inl ((wo_ne (ne_of h hp (by intro z; cases z))).trans h)
  · exact .inr ((wo_ne (ne_of h hp (by intro z; cases z))).trans h)
theorem arcs_hid {H : Hp} {p A : Addr} {as : List Ar} {C : Addr} {dx : Addr} {f : List (Str × V)} (h : ArcsAt H A as) (hp : H p = some (.ins C dx f)) : ArcsAt (wo p H) A as := by
  obtain ⟨xs, h1, h2⟩ := h
  refine ⟨xs, (wo_ne (ne_of h1 hp (by intro z; cases z))).trans h1, h2.mono fun v r hr => ?_⟩
  obtain ⟨t, e1, e2⟩ := hr
  exact ⟨t, e1, (wo_ne (ne_of e2 hp (by intro z; cases z))).trans e2⟩
theorem lines_hid {H : Hp} {p L : Addr} {as : List Ar} {P : Nat} {C : Addr} {dx : Addr} {f : List (Str × V)} (h : LinesAt H L as P) (hp : H p = some (.ins C dx f)) : LinesAt (wo p H) L as P := by
  obtain ⟨ls, h1, h2, h3, h4⟩ := h
  refine ⟨ls, (wo_ne (ne_of h1 hp (by intro z; cases z))).trans h1, h2, h3, fun q a e => ?_⟩
  obtain ⟨es, k1, k2⟩ := h4 q a e
  refine ⟨es, (wo_ne (ne_of k1 hp (by intro z; cases z))).trans k1, k2.mono fun v l hl => ?_⟩
  obtain ⟨t, e1, e2⟩ := hl
  exact ⟨t, e1, (wo_ne (ne_of e2 hp (by intro z; cases z))).trans e2⟩
theorem putF_lt {f : Str} {v : V} {fs : List (Str × V)} : (putF f v fs).length ≤ fs.length + 1 := by
  induction fs with
  | nil => exact Nat.le_refl _
  | cons x l ih =>
    unfold putF
    split <;> simp only [List.length_cons] <;> omega
theorem split_lt1 {f : Str} {v : V} : (putF f v []).length < 1000 := Nat.lt_of_le_of_lt putF_lt (by decide)
theorem split_lt2 {f g : Str} {v x : V} : (putF f v (putF g x [])).length < 1000 := by
  have := putF_lt (f := f) (v := v) (fs := putF g x [])
  have := putF_lt (f := g) (v := x) (fs := [])
  simp only [List.length_nil] at this
  omega
theorem split_lt3 {f g h : Str} {v x y : V} : (putF f v (putF g x (putF h y []))).length < 1000 := by
  have := putF_lt (f := f) (v := v) (fs := putF g x (putF h y []))
  have := putF_lt (f := g) (v := x) (fs := putF h y [])
  have := putF_lt (f := h) (v := y) (fs := [])
  simp only [List.length_nil] at this
  omega
def spSplit (T : Top w K mg) : Sp := fun vs H Q _ => ∃ (p a k dx : Addr) (rs : List Rw) (ws : List Int), vs = [.ref p, .ref a, .ref k] ∧ H p = some (.ins T.C_Split dx []) ∧ RowsL H a rs ∧ WF rs ∧ rs.length ≤ 20 ∧ Seq H k ws ∧ InR rs ws ∧ ws.length ≤ 100 ∧
  ∀ H' A L M fs, But p H H' → H' p = some (.ins T.C_Split dx (splitF rs.length A L M)) → L ≠ p → H M = none → LinesAt (wo p H') L (arcs rs ws) (2 * rs.length + 2) → H' M = some (.lst (fs.map V.int)) → Max rs ws fs → Q .non H'
theorem ok_split (T : Top w K mg) : FnOk P w K mg base CX0 4 T.a_Split___init__ T.d_Split___init__ ["self", "rows", "wanted"] (spSplit T) := by
  have G_lines_between := ok_between (P := P) (w := w) (base := base) T
  have G_lines_at := ok_lines_at (P := P) (w := w) (base := base) T
  have G_filled := ok_filled (P := P) (w := w) (base := base) T
  refine T.F_Split___init__.ok sc_Split___init__ (fun vs H Q E h => ?_) (fun cdv A outer s H vs Q E hr h => ?_)
  · obtain ⟨p, a, k, dx, rs, ws, rfl, _⟩ := h
    rfl
  · obtain ⟨p, a, k, dx, rs, ws, rfl, hp, hR, hW, hn, hk, hw, hwl, q⟩ := h
    obtain ⟨xs, hX, hE⟩ := id hR
    have hXl := hE.len
    refine ⟨_, (pss_cons (ps_fld (pv 0) (pe_callB call_len_seq (by rfl) T.m_len (by decide +kernel) (pa_cons (pv 1) pa_nil)) rfl)
    (pss_cons (ps_fld (pv 0) (pe_call G_lines_between (hr.mono (by omega)) (by rfl) T.m_lines_between T.F_lines_between.kp T.b_lines_between .nil pass0 (pa_cons (pv 1) (pa_cons (pv 2) pa_nil))) rfl)
    (pss_cons (ps_fld (pv 0) (pe_call G_lines_at (hr.mono (by omega)) (by rfl) T.m_lines_at T.F_lines_at.kp T.b_lines_at .nil pass0 (pa_cons (pe_op op_add (pe_op op_mul pe_int (pe_callB call_len_seq (by rfl) T.m_len (by decide +kernel) (pa_cons (pv 1) pa_nil))) pe_int) (pa_cons (pe_fld (pv 0) rfl) pa_nil))) rfl)
    (pss_one (ps_fld (pv 0) (pe_call G_filled (hr.mono (by omega)) (by rfl) T.m_filled T.F_filled.kp T.b_filled .nil pass0 (pa_cons (pe_op op_add (pe_op op_mul pe_int (pe_callB call_len_seq (by rfl) T.m_len (by decide +kernel) (pa_cons (pv 1) pa_nil))) pe_int) (pa_cons (pe_fld (pv 0) rfl) (pa_cons (pe_op op_mul pe_int (pe_callB call_len_seq (by rfl) T.m_len (by decide +kernel) (pa_cons (pv 1) pa_nil))) (pa_cons (pe_op op_add (pe_op op_mul pe_int (pe_callB call_len_seq (by rfl) T.m_len (by decide +kernel) (pa_cons (pv 1) pa_nil))) pe_int) pa_nil))))) rfl))))), ?_⟩
    have nap : a ≠ p := ne_of hX hp (by intro z; cases z)
    walk_at "s"
    refine ⟨p, T.C_Split, dx, _, rfl, hp, T.cl_Split, T.n_Split_own_count, by decide, ?_⟩
    have b1 : But p H (upd H p (.ins T.C_Split dx (putF "own_count" (.int (xs.length : Int)) []))) := But.upd
    have hp1 : upd H p (.ins T.C_Split dx (putF "own_count" (.int (xs.length : Int)) [])) p = some (.ins T.C_Split dx (putF "own_count" (.int (xs.length : Int)) [])) := upd_same
    generalize upd H p (.ins T.C_Split dx (putF "own_count" (.int (xs.length : Int)) [])) = H1 at b1 hp1 ⊢
    have hX1 := b1 _ _ nap hX
    walk_at "s"
    refine ⟨a, k, rs, ws, rfl, (rows_hid hR hp).same (b1.hid1), hW, hn, (seq_hid hk hp).same (b1.hid1), hw, hwl, fun A H2 s2 nA hA => ?_⟩
    have hp2 := s2 _ _ hp1
    have hX2 := s2 _ _ hX1
    have hA2 := arcs_hid hA hp2
    walk_at "s"
    refine ⟨p, T.C_Split, dx, _, rfl, hp2, T.cl_Split, T.n_Split_own_arcs, split_lt1, ?_⟩
    have b3 : But p H (upd H2 p (.ins T.C_Split dx (putF "own_arcs" (.ref A) (putF "own_count" (.int (xs.length : Int)) [])))) := (b1.trans' s2).trans But.upd
    have hp3 : upd H2 p (.ins T.C_Split dx (putF "own_arcs" (.ref A) (putF "own_count" (.int (xs.length : Int)) []))) p = some (.ins T.C_Split dx (putF "own_arcs" (.ref A) (putF "own_count" (.int (xs.length : Int)) []))) := upd_same
    have hA3 : ArcsAt (upd H2 p (.ins T.C_Split dx (putF "own_arcs" (.ref A) (putF "own_count" (.int (xs.length : Int)) [])))) A (arcs rs ws) := hA2.same But.upd.hid1
    generalize upd H2 p (.ins T.C_Split dx (putF "own_arcs" (.ref A) (putF "own_count" (.int (xs.length : Int)) []))) = H3 at b3 hp3 hA3 ⊢
    have hX3 := b3 _ _ nap hX
    have aok := arcs_ok hW (ws := ws) hn
    walk_at "s"
    refine ⟨p, T.C_Split, dx, _, .ref A, rfl, hp3, T.cl_Split, T.n_Split_own_arcs, (by rw [lookup_putF, if_pos rfl]), ?_⟩
    walk_at "s"
    refine ⟨2 * rs.length + 2, A, arcs rs ws, by rw [hXl]; push_cast; rfl, hA3, by omega, aok, fun L H4 s4 nL hL => ?_⟩
    have hp4 := s4 _ _ hp3
    have hL4 := lines_hid hL hp4
    have hA4 := arcs_hid (hA3.same s4) hp4
    have nLp : L ≠ p := (ne_of_none hp3 nL).symm
    walk_at "s"
    refine ⟨p, T.C_Split, dx, _, rfl, hp4, T.cl_Split, T.n_Split_own_lines, split_lt2, ?_⟩
    have b5 : But p H (upd H4 p (.ins T.C_Split dx (putF "own_lines" (.ref L) (putF "own_arcs" (.ref A) (putF "own_count" (.int (xs.length : Int)) []))))) := (b3.trans' s4).trans But.upd
    have hp5 : upd H4 p (.ins T.C_Split dx (putF "own_lines" (.ref L) (putF "own_arcs" (.ref A) (putF "own_count" (.int (xs.length : Int)) [])))) p = some (.ins T.C_Split dx (putF "own_lines" (.ref L) (putF "own_arcs" (.ref A) (putF "own_count" (.int (xs.length : Int)) [])))) := upd_same
    have bu : But p H4 (upd H4 p (.ins T.C_Split dx (putF "own_lines" (.ref L) (putF "own_arcs" (.ref A) (putF "own_count" (.int (xs.length : Int)) []))))) := But.upd
    generalize upd H4 p (.ins T.C_Split dx (putF "own_lines" (.ref L) (putF "own_arcs" (.ref A) (putF "own_count" (.int (xs.length : Int)) [])))) = H5 at b5 hp5 bu ⊢
    have hX5 := b5 _ _ nap hX
    have hA5 := hA4.same bu.hid1
    have hL5 := hL4.same bu.hid
    walk_at "s"
    refine ⟨p, T.C_Split, dx, _, .ref A, rfl, hp5, T.cl_Split, T.n_Split_own_arcs, (by rw [lookup_putF, if_neg (by decide), lookup_putF, if_pos rfl]), ?_⟩
    walk_at "s"
    refine ⟨A, rs, ws, by rw [hXl]; push_cast; rfl, hA5, hW, hn, hw, fun M H6 fs s6 nM hM mx => ?_⟩
    have hp6 := s6 _ _ hp5
    walk_at "s"
    refine ⟨p, T.C_Split, dx, _, rfl, hp6, T.cl_Split, T.n_Split_own_amounts, split_lt3, ?_⟩
    have nMp : M ≠ p := (ne_of_none hp5 nM).symm
    rw [hXl]
    exact q _ A L M fs ((b5.trans' s6).trans But.upd) upd_same nLp (b5.free nMp nM) (hL5.same (((But.of s6).trans But.upd).hid)) ((upd_ne nMp).trans hM) mx
end
end K15W
set_option Elab.async false
set_option linter.all false
set_option maxRecDepth 100000
set_option maxHeartbeats 4000000
namespace K15W
open PySem PySem.Spec PyProof.Rows L2 TL LW NT FL NF
local macro_rules | `(tactic| walk_at "ne") => `(tactic| first
  | (with_reducible assumption)
  | exact Ne.symm (by assumption)
  | (with_reducible exact ne_of_none (by assumption) (by assumption))
  | (with_reducible exact (ne_of_none (by assumption) (by assumption)).symm)
  | (apply ne_of_none; (case h' => assumption); (case h => walk_at "hp"))
  | (apply Ne.symm; apply ne_of_none; (case h' => assumption); (case h => walk_at "hp")))
local macro_rules | `(tactic| walk_at "hp") => `(tactic| first
  | (with_reducible assumption)
  | exact upd_same
  | (with_reducible exact hp_new (by assumption) (by assumption))
  | (apply hp_new; (case n => assumption); (case h => walk_at "hp"))
  | (refine (upd_ne ?ne).trans ?hp; (case ne => walk_at "ne"); (case hp => walk_at "hp")))
local macro_rules | `(tactic| walk_at "sq") => `(tactic| first
  | ((with_reducible show SqL _ _ _ _); assumption)
  | ((with_reducible show SqT _ _ _ _); assumption)
  | exact SqL.of (by assumption)
  | exact SqL.of upd_same
  | exact SqT.of (by assumption)
  | exact SqT.of upd_same
  | (apply SqL.of; walk_at "hp")
  | (apply SqT.of; walk_at "hp"))
local macro_rules | `(tactic| walk_at "len") => `(tactic| first
  | (with_reducible assumption)
  | exact sz_small (by omega)
  | exact sz_less (by omega)
  | decide
  | (refine sz_small ?_; simp only [List.length_append, List.length_cons, List.length_nil, List.length_map, str_len]; omega)
  | (refine sz_less ?_; simp only [List.length_append, List.length_cons, List.length_nil, List.length_map, str_len]; omega))
local macro_rules | `(tactic| walk_at "cond") => `(tactic| first
  | omega
  | (split <;> omega)
  | (with_reducible assumption)
  | exact .inl ⟨by omega, by omega⟩
  | exact .inr ⟨by omega, by omega⟩
  | exact ⟨by omega, by omega⟩
  | (show (0 : Int) < _; omega)
  | (show (0 : Int) < _; decide +kernel)
  | exact ⟨by omega, by omega, by decide⟩
  | walk_at "len"
  | rfl
  | (show CMulW _ _; unfold CMulW; decide +kernel)
  | exact ⟨_, rfl⟩
  | decide +kernel
  | exact ⟨_, by walk_at "sq"⟩
  | exact .inl ⟨rfl, _, by walk_at "sq"⟩)
local macro_rules | `(tactic| walk_at "at") => `(tactic| first
  | (with_reducible assumption)
  | exact atI_nat (by assumption)
  | exact atI_last _ _
  | exact atI_nat (j := 0) rfl
  | exact atI_nat (j := 1) rfl
  | exact atI_nat (j := 2) rfl
  | exact atI_nat (j := 3) rfl
  | exact atI_nat (j := 4) rfl)
local macro_rules | `(tactic| walk_at "ix") => `(tactic| first
  | (with_reducible assumption)
  | (with_reducible exact ixN_0 (by simp; done))
  | (with_reducible exact ixN_1 (by simp; done))
  | (with_reducible exact ixN_2 (by simp; done))
  | (with_reducible exact Evl.ixN_nat (by assumption))
  | (with_reducible exact Evl.ixN_nat (by omega)))
local macro_rules | `(tactic| walk_at "v") => `(tactic| first
  | exact val_var rfl
  | (with_reducible exact val_c)
  | (with_reducible apply val_orV; (case ha => walk_at "v"); (case hb => walk_at "v"))
  | (with_reducible apply val_andV; (case ha => walk_at "v"); (case hb => walk_at "v"))
  | (with_reducible apply val_notV; walk_at "v")
  | (with_reducible apply val_ifS; (case h => walk_at "w"); (case ha => walk_at "v"); (case hb => walk_at "v"))
  | (with_reducible apply val_ifI; (case h => walk_at "w"); (case ha => walk_at "v"); (case hb => walk_at "v"))
  | (with_reducible apply val_ifB; (case h => walk_at "w"); (case ha => walk_at "v"); (case hb => walk_at "v"))
  | (with_reducible apply val_eqS; (case ha => walk_at "v"); (case hb => walk_at "v"))
  | (with_reducible apply val_eqI; (case ha => walk_at "v"); (case hb => walk_at "v"))
  | (with_reducible apply val_neS; (case ha => walk_at "v"); (case hb => walk_at "v"))
  | (with_reducible apply val_neI; (case ha => walk_at "v"); (case hb => walk_at "v"))
  | (with_reducible apply val_op; (case ha => walk_at "v"); (case hb => walk_at "v"); (case hr => exact fun Q q => ⟨_, _, rfl, rfl, q⟩)))
local macro_rules | `(tactic| walk_at "w") => `(tactic| first
  | (with_reducible apply ans_or2; (case h1 => walk_at "w"); (case h2 => walk_at "w"))
  | (with_reducible apply ans_and2; (case h1 => walk_at "w"); (case h2 => walk_at "w"))
  | (with_reducible apply ans_not; walk_at "w")
  | (with_reducible apply ans_test; walk_at "v")
  | (with_reducible apply ans_val; walk_at "v"))
local macro_rules | `(tactic| walk_at "s2") => `(tactic| first
  | refine ⟨_, rfl, ?_⟩
  | refine ⟨_, _, rfl, rfl, ?_⟩
  | (refine And.intro ?cc ?_; (case cc => walk_at "cond"))
  | refine ⟨_, _, _, _, rfl, rfl, by walk_at "sq", by walk_at "at", ?_⟩
  | refine ⟨_, _, _, _, rfl, rfl, by walk_at "hp", by walk_at "ix", ?_⟩
  | refine ⟨_, _, _, _, rfl, rfl, by walk_at "hp", by walk_at "hp", by walk_at "len", ?_⟩
  | refine ⟨_, _, _, rfl, rfl, by walk_at "len", by walk_at "at", ?_⟩
  | refine ⟨_, _, _, rfl, rfl, by walk_at "hp", by walk_at "len", ?_⟩
  | refine ⟨_, _, _, rfl, rfl, by walk_at "hp", by walk_at "at", ?_⟩
  | refine ⟨_, _, rfl, rfl, by walk_at "sq", ?_⟩
  | refine ⟨_, _, rfl, rfl, by walk_at "len", ?_⟩
  | refine ⟨_, _, rfl, by walk_at "sq", ?_⟩
  | refine ⟨_, _, rfl, .inl (by walk_at "sq"), ?_⟩
  | refine ⟨_, _, rfl, .inr (by walk_at "sq"), ?_⟩
  | refine ⟨_, _, rfl, by walk_at "sq", rfl, ?_⟩
  | refine ⟨_, fun _ _ h => h, ?_⟩
  | refine .inl ⟨_, rfl, ?_⟩
  | refine ⟨_, _, .type "int", .type _, true, rfl, ClsV.ty _, .base (.int _), kit_ty (by decide +kernel), ?_⟩
  | refine ⟨_, _, .type "int", .type _, false, rfl, ClsV.ty _, .base (.int _), kit_ty (by decide +kernel), ?_⟩
  | refine ⟨_, _, .type "bool", .type _, true, rfl, ClsV.ty _, .base (.bl _), kit_ty (by decide +kernel), ?_⟩
  | refine ⟨_, _, .type "bool", .type _, false, rfl, ClsV.ty _, .base (.bl _), kit_ty (by decide +kernel), ?_⟩
  | refine ⟨_, _, .type "str", .type _, true, rfl, ClsV.ty _, .base (.str _), kit_ty (by decide +kernel), ?_⟩
  | refine ⟨_, _, .type "str", .type _, false, rfl, ClsV.ty _, .base (.str _), kit_ty (by decide +kernel), ?_⟩
  | refine ⟨_, _, .type "NoneType", .type _, true, rfl, ClsV.ty _, .base (.non), kit_ty (by decide +kernel), ?_⟩
  | refine ⟨_, _, .type "NoneType", .type _, false, rfl, ClsV.ty _, .base (.non), kit_ty (by decide +kernel), ?_⟩
  | refine ⟨_, _, .type "list", .type _, true, rfl, ClsV.ty _, .base (.lst (by walk_at "hp")), kit_ty (by decide +kernel), ?_⟩
  | refine ⟨_, _, .type "list", .type _, false, rfl, ClsV.ty _, .base (.lst (by walk_at "hp")), kit_ty (by decide +kernel), ?_⟩
  | refine ⟨_, _, .type "tuple", .type _, true, rfl, ClsV.ty _, .base (.tup (by walk_at "hp")), kit_ty (by decide +kernel), ?_⟩
  | refine ⟨_, _, .type "tuple", .type _, false, rfl, ClsV.ty _, .base (.tup (by walk_at "hp")), kit_ty (by decide +kernel), ?_⟩
  | fail)
local macro_rules | `(tactic| walk_at "s1") => `(tactic| first
  | (with_reducible refine go_gcons ?_)
  | (with_reducible refine go_gnil ?_)
  | (with_reducible refine go_seqM ?_)
  | (with_reducible refine go_nextM ?_)
  | (with_reducible refine go_contM ?_)
  | (with_reducible refine go_brkM ?_)
  | (with_reducible refine go_retM ?_)
  | (with_reducible refine go_asgM ?_)
  | (with_reducible refine go_test ?_)
  | (with_reducible refine go_rI0 ?_)
  | (with_reducible refine go_op ?_)
  | (with_reducible refine go_var rfl ?_)
  | ((with_reducible show tFor (iRng1 _) _ _ _ _ _); refine (show iRng1 _ _ _ _ from ?_))
  | (with_reducible refine go_rng1 ?_)
  | (with_reducible refine go_c ?_)
  | (with_reducible apply go_pick; (case hs => walk_at "hp"); (case h0 => walk_at "cond"); (case h1 => walk_at "cond"); (case' q => intro k a b c h0 h1))
  | (with_reducible refine go_nil ?_)
  | (with_reducible refine go_cons ?_)
  | (with_reducible refine go_call ?_)
  | (with_reducible refine go_cb ?_)
  | (with_reducible refine go_next ?_)
  | (with_reducible refine go_cont ?_)
  | (with_reducible refine go_ret ?_)
  | (with_reducible refine go_name ?_)
  | (with_reducible refine go_seq ?_)
  | (with_reducible refine go_asg ?_)
  | (with_reducible apply go_or; (case h => walk_at "v"))
  | (with_reducible apply go_and; (case h => walk_at "v"))
  | (with_reducible apply go_andL; (case h => walk_at "v"); (case' h1 => intro e); (case' h2 => intro e))
  | (with_reducible apply go_orL; (case h => walk_at "v"); (case' h1 => intro e); (case' h2 => intro e))
  | (with_reducible apply go_ifE; (case h => walk_at "v"))
  | (with_reducible apply go_ifOr; (case h => walk_at "w"); (case' h1 => intro e); (case' h2 => intro e))
  | (with_reducible apply go_ifAnd; (case h => walk_at "w"); (case' h1 => intro e); (case' h2 => intro e))
  | (with_reducible refine go_min ?_)
  | (with_reducible refine iteT ?_)
  | (with_reducible refine iteF ?_)
  | (with_reducible refine iteD (fun _ => ?_) (fun e => absurd rfl e))
  | (with_reducible refine iteS (fun e => ?_) (fun e => ?_))
  | (with_reducible refine iteI (fun e => ?_) (fun e => ?_))
  | (with_reducible refine iteSn (fun e => ?_) (fun e => ?_))
  | (with_reducible refine iteIn (fun e => ?_) (fun e => ?_))
  | (with_reducible refine iteD (fun e => ?_) (fun e => ?_))
  | (with_reducible refine iteDn (fun e => ?_) (fun e => ?_))
  | (with_reducible refine ite2 (fun e => ?_) (fun e => ?_))
  | (refine fun (p : Addr) (hp : _ = none) => ?_)
  | ((conv => whnf); walk_at "s2")
  | fail)
local macro_rules | `(tactic| walk_at "s") => `(tactic| repeat' (first
  | (with_reducible refine go_gcons ?_)
  | (with_reducible refine go_gnil ?_)
  | (with_reducible refine go_seqM ?_)
  | (with_reducible refine go_nextM ?_)
  | (with_reducible refine go_contM ?_)
  | (with_reducible refine go_brkM ?_)
  | (with_reducible refine go_retM ?_)
  | (with_reducible refine go_asgM ?_)
  | (with_reducible refine go_test ?_)
  | (with_reducible refine go_rI0 ?_)
  | (with_reducible refine go_op ?_)
  | (with_reducible refine go_var rfl ?_)
  | ((with_reducible show tFor (iRng1 _) _ _ _ _ _); refine (show iRng1 _ _ _ _ from ?_))
  | (with_reducible refine go_rng1 ?_)
  | (with_reducible refine go_c ?_)
  | (with_reducible apply go_pick; (case hs => walk_at "hp"); (case h0 => walk_at "cond"); (case h1 => walk_at "cond"); (case' q => intro k a b c h0 h1))
  | (with_reducible refine go_nil ?_)
  | (with_reducible refine go_cons ?_)
  | (with_reducible refine go_call ?_)
  | (with_reducible refine go_cb ?_)
  | (with_reducible refine go_next ?_)
  | (with_reducible refine go_cont ?_)
  | (with_reducible refine go_ret ?_)
  | (with_reducible refine go_name ?_)
  | (with_reducible refine go_seq ?_)
  | (with_reducible refine go_asg ?_)
  | (with_reducible apply go_or; (case h => walk_at "v"))
  | (with_reducible apply go_and; (case h => walk_at "v"))
  | (with_reducible apply go_andL; (case h => walk_at "v"); (case' h1 => intro e); (case' h2 => intro e))
  | (with_reducible apply go_orL; (case h => walk_at "v"); (case' h1 => intro e); (case' h2 => intro e))
  | (with_reducible apply go_ifE; (case h => walk_at "v"))
  | (with_reducible apply go_ifOr; (case h => walk_at "w"); (case' h1 => intro e); (case' h2 => intro e))
  | (with_reducible apply go_ifAnd; (case h => walk_at "w"); (case' h1 => intro e); (case' h2 => intro e))
  | (with_reducible refine go_min ?_)
  | (with_reducible refine iteT ?_)
  | (with_reducible refine iteF ?_)
  | (with_reducible refine iteD (fun _ => ?_) (fun e => absurd rfl e))
  | (with_reducible refine iteS (fun e => ?_) (fun e => ?_))
  | (with_reducible refine iteI (fun e => ?_) (fun e => ?_))
  | (with_reducible refine iteSn (fun e => ?_) (fun e => ?_))
  | (with_reducible refine iteIn (fun e => ?_) (fun e => ?_))
  | (with_reducible refine iteD (fun e => ?_) (fun e => ?_))
  | (with_reducible refine iteDn (fun e => ?_) (fun e => ?_))
  | (with_reducible refine ite2 (fun e => ?_) (fun e => ?_))
  | (refine fun (p : Addr) (hp : _ = none) => ?_)
  | ((conv => whnf); walk_at "s2")
  | fail))

section
variable {P : Program} {w : World} {K : PySem.W.Frag} {mg : Str → Option Value} {base : Heap}
/-! ### one step on -/
def spStep (T : Top w K mg) : Sp := fun vs H Q _ => ∃ (s M dx A L M0 : Addr) (n : Int) (p P : Nat) (as : List Ar) (fs : List Int), vs = [.ref s, .ref M, .int p] ∧ H s = some (.ins T.C_Split dx (splitF n A L M0)) ∧ LinesAt H L as P ∧ p < P ∧ as.length ≤ 3000 ∧ H M = some (.lst (fs.map V.int)) ∧ fs.length = as.length ∧
  ((∀ i, i < as.length → (ar as i).lo = p → fn fs i ≤ 0) → Q .non H) ∧ ∀ i, i < as.length → (ar as i).lo = p → 0 < fn fs i → ∀ H', But M H H' → H' M = some (.lst ((fs.set i (fn fs i - 1)).map V.int)) → Q (.int (ar as i).hi) H'
theorem ok_step (T : Top w K mg) : FnOk P w K mg base CX0 1 T.a_step_on T.d_step_on ["split", "left", "point"] (spStep T) := by
  refine T.F_step_on.ok sc_step_on (fun vs H Q E h => ?_) (fun cdv A0 outer s0 H vs Q E hr h => ?_)
  · obtain ⟨s, M, dx, A, L, M0, n, p, P, as, fs, rfl, _⟩ := h
    rfl
  · obtain ⟨s, M, dx, A, L, M0, n, p, P, as, fs, rfl, hs, hL, hp, hal, hM, hfl, q1, q2⟩ := h
    obtain ⟨xs, a, es, hL0, hat, ha, hE⟩ := hL.at hp
    have hEl := hE.len
    have hll := lineN_len (as := as) (p := p) as.length
    have hll : (lineL as p).length ≤ 2 * as.length := hll
    refine ⟨_, (pss_cons (ps_for PassesOwn.never rfl (pi_list (pe_ix ix_list (pe_fld (pv 0) rfl) (pv 2) (fun _ _ => rfl))) (pg_tup rfl (pgs_cons (pg_name (i := 3) sc_step_on.nd rfl (.inl rfl)) (pgs_cons (pg_name (i := 4) sc_step_on.nd rfl (.inl rfl)) (pgs_cons (pg_name (i := 5) sc_step_on.nd rfl (.inl rfl)) pgs_nil))))
    (pss_one (ps_if (PW.pt (pw_and (pt_val (pv 5)) (pw_and1 (pt_cmpR op_gt (pe_ix ix_list (pv 1) (pv 3) (fun _ _ => rfl)) pe_int (nomark _)))))
    (pss_cons (ps_augS (pv 1) (pv 3) get_listN pe_int ip_sub set_list)
    (pss_one (ps_ret (pv 4))))
    pss_nil)))
    (pss_one (ps_ret pe_non))), ?_⟩
    walk_at "s"
    refine ⟨s, T.C_Split, dx, _, .ref L, rfl, hs, T.cl_Split, T.n_Split_own_lines, (by unfold splitF; rw [lookup_putF, if_neg (by decide), lookup_putF, if_pos rfl]), ?_⟩
    walk_at "s"
    refine for_listQ (xs := es) Q rfl (fun k σ H' => ∃ (v3 v4 v5 : Option V), σ = [some (.ref s), some (.ref M), some (.int p), v3, v4, v5] ∧ H' = H ∧ ∀ l ∈ (lineL as p).take k, l.2.2 = true → fn fs l.1 ≤ 0) ?_ ?_ ?_ ?_
    · exact ⟨_, _, _, rfl, rfl, fun l hl => by cases hl⟩
    · intro k σ H' hk hP
      obtain ⟨v3, v4, v5, rfl, rfl, _⟩ := hP
      exact SqL.of ha
    · intro N X k x σ H' hk hP hN
      obtain ⟨v3, v4, v5, rfl, rfl, hno⟩ := hP
      obtain ⟨⟨i, o, fw⟩, hl, t, rfl, ht⟩ := hE.got hk
      obtain ⟨l1, l2, l3⟩ := mem_lineL.mp (List.mem_of_getElem? hl)
      have l1 : i < as.length := l1
      have hatM := fn_at (fs := fs) (i := i) (by omega)
      have hix : ixN (fs.map V.int).length (i : Int) = some i := Evl.ixN_nat (by rw [List.length_map]; omega)
      refine ⟨t, _, rfl, SqT.of ht, rfl, ?_⟩
      have keep : (fw = true → fn fs i ≤ 0) → N [some (.ref s), some (.ref M), some (.int p), some (.int i), some (.int o), some (.bl fw)] H' := fun h => hN _ _ ⟨_, _, _, rfl, rfl, fun l hl2 => by
        rw [take_snoc hl] at hl2
        rcases List.mem_append.mp hl2 with hl2 | hl2
        · exact hno l hl2
        · rw [List.mem_singleton] at hl2
          rw [hl2]
          exact h⟩
      walk_at "s"
      · rename_i e1 e2
        have e1 : fw = true := e1
        subst e1
        have l2 : (ar as i).lo = p := l2
        have l3 : o = (ar as i).hi := l3
        subst l3
        refine ⟨M, _, i, _, rfl, rfl, SqL.of hM, by omega, hatM, ?_⟩
        refine ⟨_, _, rfl, rfl, ?_⟩
        refine ⟨M, _, i, i, rfl, rfl, hM, hix, ?_⟩
        walk_at "s"
        exact q2 i l1 l2 e2 _ But.upd (by rw [upd_same, List.map_set])
      · rename_i e1 e2
        exact keep fun _ => by omega
      · rename_i e1
        exact keep fun h => absurd h e1
    · intro σ H' hP
      obtain ⟨v3, v4, v5, rfl, rfl, hno⟩ := hP
      walk_at "s"
      refine q1 fun i hi he => hno (i, (ar as i).hi, true) ?_ rfl
      rw [hEl, List.take_length]
      exact mem_lineL.mpr ⟨hi, he, rfl⟩
end
end K15W
set_option Elab.async false
set_option linter.all false
set_option maxRecDepth 100000
/-! K15P3: a flow taken apart into ways: plain. -/
namespace NF
open PySem PySem.Spec PyProof.Rows L2 TL LW NT FL
abbrev Pr := Int × Int
def opsN (rs : List Rw) (n : Int) : List Int := match rs[n.toNat]? with | some r => r.ops | none => []
def srcN (rs : List Rw) (n : Int) : Bool := match rs[n.toNat]? with | some r => r.src | none => false
structure WayOk (rs : List Rw) (ws : List Int) (way : List Pr) : Prop where
  ne : way ≠ []
  len : way.length ≤ rs.length
  rng : ∀ p ∈ way, 0 ≤ p.1 ∧ p.1 < (rs.length : Int) ∧ 0 ≤ p.2 ∧ p.2 < szN rs p.1.toNat
  ops : ∀ j a b, way[j]? = some a → way[j + 1]? = some b → a.1 ∈ opsN rs b.1
  src : ∀ a, way[0]? = some a → srcN rs a.1 = true
  want : ∀ a, way.getLast? = some a → a.1 ∈ ws
/-- a way in the making, which stands at p -/
structure Part (rs : List Rw) (ws : List Int) (way : List Pr) (p : Nat) : Prop where
  rng : ∀ p ∈ way, 0 ≤ p.1 ∧ p.1 < (rs.length : Int) ∧ 0 ≤ p.2 ∧ p.2 < szN rs p.1.toNat
  ops : ∀ j a b, way[j]? = some a → way[j + 1]? = some b → a.1 ∈ opsN rs b.1
  src : ∀ a, way[0]? = some a → srcN rs a.1 = true
  pt : (p = TT rs ∧ way.length ≤ rs.length ∧ ∃ a, way.getLast? = some a ∧ a.1 ∈ ws) ∨ ∃ n r, p = 2 * n ∧ rs[n]? = some r ∧ way.length ≤ n ∧ ((way = [] ∧ r.src = true) ∨ ∃ a, way.getLast? = some a ∧ a.1 ∈ r.ops)
theorem Part.done {rs : List Rw} {ws : List Int} {way : List Pr} (h : Part rs ws way (TT rs)) : WayOk rs ws way := by
  rcases h.pt with ⟨_, hl, a, ha, hw⟩ | ⟨n, r, e, hr, _⟩
  · exact ⟨fun z => (by rw [z] at ha; cases ha), hl, h.rng, h.ops, h.src, fun b hb => (by rw [ha] at hb; injection hb with hb; rw [← hb]; exact hw)⟩
  · unfold TT at e
    omega
theorem Part.node {rs : List Rw} {ws : List Int} {way : List Pr} {p : Nat} (h : Part rs ws way p) (hp : p ≠ TT rs) : ∃ n r, p = 2 * n ∧ rs[n]? = some r ∧ way.length ≤ n ∧ ((way = [] ∧ r.src = true) ∨ ∃ a, way.getLast? = some a ∧ a.1 ∈ r.ops) := by
  rcases h.pt with ⟨e, _⟩ | h
  · exact absurd e hp
  · exact h
/-! ### what an arc from a point is -/
theorem from_S {rs : List Rw} (w : WF rs) {ws : List Int} {i : Nat} (hi : i < (arcs rs ws).length) (e : (ar (arcs rs ws) i).lo = SS rs) : ∃ n r, (ar (arcs rs ws) i).hi = 2 * n ∧ rs[n]? = some r ∧ r.src = true := by
  have lt : ∀ {n : Nat} {r : Rw}, rs[n]? = some r → n < rs.length := fun e => (List.getElem?_eq_some_iff.mp e).1
  rcases mem_arcs w (ar_mem hi) with ⟨k, l, h⟩ | ⟨k, l, s, h⟩ | ⟨k, l, o, l2, q, h⟩ | ⟨k, l, s, h⟩
  · rw [h] at e
    have e : 2 * _ = SS rs := e
    have := lt k
    unfold SS at e
    omega
  · exact ⟨_, _, by rw [h], k, s⟩
  · rw [h] at e
    have e : 2 * _ + 1 = SS rs := e
    unfold SS at e
    omega
  · rw [h] at e
    have e : 2 * _ + 1 = SS rs := e
    unfold SS at e
    omega
theorem from_in {rs : List Rw} (w : WF rs) {ws : List Int} {i n : Nat} (hi : i < (arcs rs ws).length) (e : (ar (arcs rs ws) i).lo = 2 * n) (hn : n < rs.length) : ∃ r, rs[n]? = some r ∧ ar (arcs rs ws) i = ⟨2 * n, 2 * n + 1, some r.sz⟩ := by
  rcases mem_arcs w (ar_mem hi) with ⟨k, l, h⟩ | ⟨k, l, s, h⟩ | ⟨k, l, o, l2, q, h⟩ | ⟨k, l, s, h⟩
  · rename_i m r
    rw [h] at e
    have e : 2 * m = 2 * n := e
    have : m = n := by omega
    subst this
    exact ⟨r, k, h⟩
  · rw [h] at e
    have e : 2 * _ = 2 * n := e
    omega
  · rw [h] at e
    have e : 2 * _ + 1 = 2 * n := e
    omega
  · rw [h] at e
    have e : 2 * _ + 1 = 2 * n := e
    omega
theorem from_out {rs : List Rw} (w : WF rs) {ws : List Int} {i n : Nat} (hi : i < (arcs rs ws).length) (e : (ar (arcs rs ws) i).lo = 2 * n + 1) : ((ar (arcs rs ws) i).hi = TT rs ∧ (n : Int) ∈ ws) ∨ ∃ m r, (ar (arcs rs ws) i).hi = 2 * m ∧ rs[m]? = some r ∧ (n : Int) ∈ r.ops ∧ n < m := by
  rcases mem_arcs w (ar_mem hi) with ⟨k, l, h⟩ | ⟨k, l, s, h⟩ | ⟨k, l, o, l2, q, h⟩ | ⟨k, l, s, h⟩
  · rw [h] at e
    have e : 2 * _ = 2 * n + 1 := e
    omega
  · rw [h] at e
    have e : 2 * _ = 2 * n + 1 := e
    omega
  · rename_i m k2 r
    rw [h] at e
    have e : 2 * k2 + 1 = 2 * n + 1 := e
    have : k2 = n := by omega
    subst this
    exact .inr ⟨m, r, by rw [h], k, o, q⟩
  · rename_i m r
    rw [h] at e
    have e : 2 * m + 1 = 2 * n + 1 := e
    have : m = n := by omega
    subst this
    exact .inl ⟨by rw [h]; rfl, s⟩
theorem hi_S {rs : List Rw} (w : WF rs) {ws : List Int} {i : Nat} (hi : i < (arcs rs ws).length) : (ar (arcs rs ws) i).hi ≠ SS rs := by
  have lt : ∀ {n : Nat} {r : Rw}, rs[n]? = some r → n < rs.length := fun e => (List.getElem?_eq_some_iff.mp e).1
  rcases mem_arcs w (ar_mem hi) with ⟨k, l, h⟩ | ⟨k, l, s, h⟩ | ⟨k, l, o, l2, q, h⟩ | ⟨k, l, s, h⟩
  all_goals
    have := lt k
    rw [h]
    unfold SS
    simp
    try omega
/-- a node has one arc -/
theorem one_arc {rs : List Rw} (w : WF rs) {ws : List Int} {i j n : Nat} (hi : i < (arcs rs ws).length) (hj : j < (arcs rs ws).length) (ei : (ar (arcs rs ws) i).lo = 2 * n) (ej : (ar (arcs rs ws) j).lo = 2 * n) (hn : n < rs.length) : i = j := by
  have capd : ∀ {m : Nat} {a : Ar}, a ∈ blk rs ws m → a.cap ≠ none → a.lo = 2 * m := fun {m a} h hc => by
    unfold blk at h
    cases e : rs[m]? with
    | none =>
      rw [e] at h
      cases h
    | some r =>
      rw [e] at h
      have h : a ∈ (if liv rs ws (m : Int) = true then _ else []) := h
      split at h
      · rcases List.mem_cons.mp h with h | h
        · rw [h]
        · rcases List.mem_append.mp h with h | h
          · rcases List.mem_append.mp h with h | h
            · split at h
              · rw [List.mem_singleton] at h
                rw [h] at hc
                exact absurd rfl hc
              · cases h
            · obtain ⟨k, _, rfl⟩ := List.mem_map.mp h
              exact absurd rfl hc
          · split at h
            · rw [List.mem_singleton] at h
              rw [h] at hc
              exact absurd rfl hc
            · cases h
      · cases h
  have pw : (arcs rs ws).Pairwise fun a b => ¬ (a.cap ≠ none ∧ b.cap ≠ none ∧ a.lo = b.lo) := by
    unfold arcs
    rw [List.pairwise_flatMap]
    refine ⟨fun m _ => ?_, List.pairwise_lt_range.imp fun {m1 m2} hm x hx y hy ⟨c1, c2, c3⟩ => ?_⟩
    · unfold blk
      cases e : rs[m]? with
      | none => exact List.Pairwise.nil
      | some r =>
        show (if liv rs ws (m : Int) = true then _ else []).Pairwise _
        split
        · have rest : ∀ a ∈ ((if r.src = true then [(⟨2 * rs.length, 2 * m, none⟩ : Ar)] else []) ++ (((sops rs r).filter fun (k : Nat) => liv rs ws (k : Int)).map fun k => (⟨2 * k + 1, 2 * m, none⟩ : Ar)) ++ (if (m : Int) ∈ ws then [(⟨2 * m + 1, 2 * rs.length + 1, none⟩ : Ar)] else [])), a.cap = none := fun a h => by
            rcases List.mem_append.mp h with h | h
            · rcases List.mem_append.mp h with h | h
              · split at h
                · rw [List.mem_singleton] at h
                  rw [h]
                · cases h
              · obtain ⟨k, _, rfl⟩ := List.mem_map.mp h
                rfl
            · split at h
              · rw [List.mem_singleton] at h
                rw [h]
              · cases h
          refine List.pairwise_cons.mpr ⟨fun a ha z => z.2.1 (rest a ha), ?_⟩
          exact List.Pairwise.imp_of_mem (R := fun _ _ => True) (fun {a b} ha _ _ z => z.1 (rest a ha)) (List.pairwise_of_forall fun _ _ => trivial)
        · exact List.Pairwise.nil
    · have a1 := capd hx c1
      have a2 := capd hy c2
      omega
  obtain ⟨r, _, hi2⟩ := from_in w hi ei hn
  obtain ⟨r2, _, hj2⟩ := from_in w hj ej hn
  have at_ : ∀ {k : Nat} (hk : k < (arcs rs ws).length), (arcs rs ws)[k] = ar (arcs rs ws) k := fun {k} hk => by
    unfold ar
    rw [List.getD_eq_getElem?_getD, List.getElem?_eq_getElem hk]
    rfl
  rcases Nat.lt_trichotomy i j with h | h | h
  · exact absurd ⟨by rw [at_ hi, hi2]; simp, by rw [at_ hj, hj2]; simp, by rw [at_ hi, at_ hj, hi2, hj2]⟩ (List.pairwise_iff_getElem.mp pw i j hi hj h)
  · exact h
  · exact absurd ⟨by rw [at_ hj, hj2]; simp, by rw [at_ hi, hi2]; simp, by rw [at_ hi, at_ hj, hi2, hj2]⟩ (List.pairwise_iff_getElem.mp pw j i hj hi h)
/-! ### one taken from an arc -/
theorem div_take {as : List Ar} {gs : List Int} {i : Nat} (hi : i < as.length) (hl : gs.length = as.length) (r : Nat) :
    div as (fn (gs.set i (fn gs i - 1))) r = div as (fn gs) r - (if (ar as i).lo = r then 1 else 0) + (if (ar as i).hi = r then 1 else 0) := by
  rw [fn_set (by omega)]
  unfold div
  have u := sm_upd (n := as.length) (a := i) (d := - (if (ar as i).lo = r then 1 else 0) + (if (ar as i).hi = r then 1 else 0)) (g := fun j => (if (ar as j).lo = r then fn gs j else 0) - (if (ar as j).hi = r then fn gs j else 0))
    (h := fun j => (if (ar as j).lo = r then (if j = i then fn gs i - 1 else fn gs j) else 0) - (if (ar as j).hi = r then (if j = i then fn gs i - 1 else fn gs j) else 0)) hi ?_ ?_
  · rw [u]
    omega
  · simp only [if_true]
    by_cases a : (ar as i).lo = r <;> by_cases b : (ar as i).hi = r <;> simp only [a, b, if_true, if_false] <;> omega
  · intro j hj
    simp only [if_neg hj]
theorem sum_take {as : List Ar} {gs : List Int} {i : Nat} (hi : i < as.length) (hl : gs.length = as.length) : sm (fn (gs.set i (fn gs i - 1))) as.length = sm (fn gs) as.length - 1 := by
  rw [fn_set (by omega)]
  have u := sm_upd (n := as.length) (a := i) (d := -1) (g := fn gs) (h := fun j => if j = i then fn gs i - 1 else fn gs j) hi (by rw [if_pos rfl]; omega) fun j hj => if_neg hj
  rw [u]
  omega
/-- what is left of a flow, with one unit at p -/
structure Stt (rs : List Rw) (ws fs gs us : List Int) (all : List Pr) (p : Nat) (v : Int) : Prop where
  glen : gs.length = (arcs rs ws).length
  ulen : us.length = rs.length
  pos : ∀ i, i < (arcs rs ws).length → 0 ≤ fn gs i
  con : ∀ r, r ≠ SS rs → r ≠ TT rs → div (arcs rs ws) (fn gs) r = if r = p then 1 else 0
  val : div (arcs rs ws) (fn gs) (SS rs) = v
  use : ∀ i n, i < (arcs rs ws).length → (ar (arcs rs ws) i).lo = 2 * n → n < rs.length → fn us n + fn gs i = fn fs i
  upos : ∀ n, 0 ≤ fn us n
  old : ∀ q ∈ all, 0 ≤ q.1 ∧ q.2 < fn us q.1.toNat
  nod : all.Nodup
theorem Stt.start {rs : List Rw} {ws fs : List Int} (m : Max rs ws fs) : Stt rs ws fs fs (List.replicate rs.length 0) [] (TT rs) (div (arcs rs ws) (fn fs) (SS rs)) := by
  refine ⟨m.len, List.length_replicate, m.flow.pos, fun r h1 h2 => ?_, rfl, fun i n _ _ _ => ?_, fun n => ?_, fun q hq => (by cases hq), List.nodup_nil⟩
  · rw [m.flow.con r h1 h2, if_neg h2]
  · rw [fn_rep]
    exact Int.zero_add _
  · rw [fn_rep]
    exact Int.le_refl _
theorem Stt.sum {rs : List Rw} {ws fs gs us : List Int} {all : List Pr} {p : Nat} {v : Int} (h : Stt rs ws fs gs us all p v) : 0 ≤ sm (fn gs) (arcs rs ws).length := sm_nonneg h.pos
theorem Stt.take {rs : List Rw} (w : WF rs) {ws fs gs us us' : List Int} {all all' : List Pr} {p i : Nat} {v : Int} (h : Stt rs ws fs gs us all p v) (hi : i < (arcs rs ws).length) (hg : 0 < fn gs i)
    (hlo : (ar (arcs rs ws) i).lo = p ∨ (p = TT rs ∧ (ar (arcs rs ws) i).lo = SS rs)) (hT : (ar (arcs rs ws) i).lo ≠ TT rs) (ul : us'.length = rs.length)
    (huse : ∀ j n, j < (arcs rs ws).length → (ar (arcs rs ws) j).lo = 2 * n → n < rs.length → fn us' n + fn (gs.set i (fn gs i - 1)) j = fn fs j) (hup : ∀ n, 0 ≤ fn us' n) (hold : ∀ q ∈ all', 0 ≤ q.1 ∧ q.2 < fn us' q.1.toNat) (hnod : all'.Nodup) :
    Stt rs ws fs (gs.set i (fn gs i - 1)) us' all' (ar (arcs rs ws) i).hi (v - if (ar (arcs rs ws) i).lo = SS rs then 1 else 0) := by
  refine ⟨by rw [List.length_set, h.glen], ul, fun j hj => ?_, fun r r1 r2 => ?_, ?_, huse, hup, hold, hnod⟩
  · rw [fn_set (by rw [h.glen]; exact hi)]
    show 0 ≤ if j = i then fn gs i - 1 else fn gs j
    have := h.pos j hj
    split <;> omega
  · rw [div_take hi h.glen, h.con r r1 r2]
    rcases hlo with e | ⟨e1, e2⟩
    · rw [← e]
      by_cases a : r = (ar (arcs rs ws) i).lo <;> by_cases b : r = (ar (arcs rs ws) i).hi
      · rw [if_pos a, if_pos a.symm, if_pos b.symm, if_pos b]; omega
      · rw [if_pos a, if_pos a.symm, if_neg (Ne.symm b), if_neg b]; omega
      · rw [if_neg a, if_neg (Ne.symm a), if_pos b.symm, if_pos b]; omega
      · rw [if_neg a, if_neg (Ne.symm a), if_neg (Ne.symm b), if_neg b]; omega
    · rw [e1, if_neg r2, e2, if_neg (Ne.symm r1)]
      by_cases b : r = (ar (arcs rs ws) i).hi
      · rw [if_pos b.symm, if_pos b]; omega
      · rw [if_neg (Ne.symm b), if_neg b]; omega
  · rw [div_take hi h.glen, h.val, if_neg (hi_S w hi)]
    omega
/-- one more leaves the source -/
theorem Stt.leave {rs : List Rw} (w : WF rs) {ws fs gs us : List Int} {all : List Pr} {i : Nat} {v : Int} (h : Stt rs ws fs gs us all (TT rs) v) (hi : i < (arcs rs ws).length) (hg : 0 < fn gs i) (hlo : (ar (arcs rs ws) i).lo = SS rs) :
    Stt rs ws fs (gs.set i (fn gs i - 1)) us all (ar (arcs rs ws) i).hi (v - 1) ∧ Part rs ws [] (ar (arcs rs ws) i).hi ∧ (ar (arcs rs ws) i).hi ≠ TT rs := by
  obtain ⟨n, r, e1, e2, e3⟩ := from_S w hi hlo
  have k := h.take w hi hg (.inr ⟨rfl, hlo⟩) (by rw [hlo]; unfold SS TT; omega) h.ulen (fun j n hj hl hn => by
    rw [fn_set (by rw [h.glen]; exact hi)]
    have ne : j ≠ i := fun z => by
      rw [z, hlo] at hl
      unfold SS at hl
      omega
    show fn us n + (if j = i then _ else fn gs j) = _
    rw [if_neg ne]
    exact h.use j n hj hl hn) h.upos h.old h.nod
  rw [if_pos hlo] at k
  refine ⟨k, ⟨fun p hp => (by cases hp), fun j a b ha => (by simp at ha), fun a ha => (by simp at ha), .inr ⟨n, r, e1, e2, Nat.zero_le _, .inl ⟨rfl, e3⟩⟩⟩, ?_⟩
  rw [e1]
  unfold TT
  omega
/-- nothing leaves the source any more -/
theorem Stt.done {rs : List Rw} (w : WF rs) {ws fs gs us : List Int} {all : List Pr} {p : Nat} {v : Int} (h : Stt rs ws fs gs us all p v) (hno : ∀ i, i < (arcs rs ws).length → (ar (arcs rs ws) i).lo = SS rs → fn gs i ≤ 0) : v = 0 := by
  rw [← h.val]
  unfold div
  refine sm_zero fun i hi => ?_
  rw [if_neg (hi_S w hi)]
  split
  · rename_i e
    have := hno i hi e
    have := h.pos i hi
    omega
  · rfl
/-- one unit can go on -/
theorem Stt.can {rs : List Rw} {ws fs gs us : List Int} {all : List Pr} {p : Nat} {v : Int} (h : Stt rs ws fs gs us all p v) (h1 : p ≠ SS rs) (h2 : p ≠ TT rs) (hno : ∀ i, i < (arcs rs ws).length → (ar (arcs rs ws) i).lo = p → fn gs i ≤ 0) : False := by
  have e := h.con p h1 h2
  rw [if_pos rfl] at e
  have le : div (arcs rs ws) (fn gs) p ≤ sm (fun _ => 0) (arcs rs ws).length := sm_le fun i hi => by
    have := h.pos i hi
    have := hno i hi
    by_cases a : (ar (arcs rs ws) i).lo = p
    · have := this a
      rw [if_pos a]
      split <;> omega
    · rw [if_neg a]
      split <;> omega
  rw [sm_zero fun _ _ => rfl] at le
  omega
/-- through a node -/
theorem Stt.through {rs : List Rw} (w : WF rs) {ws fs gs us : List Int} (mx : Max rs ws fs) {all : List Pr} {i n : Nat} {v : Int} (h : Stt rs ws fs gs us all (2 * n) v) (hn : n < rs.length) (hi : i < (arcs rs ws).length) (hg : 0 < fn gs i) (hlo : (ar (arcs rs ws) i).lo = 2 * n) :
    (ar (arcs rs ws) i).hi = 2 * n + 1 ∧ Stt rs ws fs (gs.set i (fn gs i - 1)) (us.set n (fn us n + 1)) (all ++ [((n : Int), fn us n)]) (2 * n + 1) v ∧ 0 ≤ fn us n ∧ fn us n < szN rs n := by
  obtain ⟨r, e1, e2⟩ := from_in w hi hlo hn
  have hu := h.use i n hi hlo hn
  have cap := mx.flow.cap i hi r.sz (by rw [e2])
  have eh : (ar (arcs rs ws) i).hi = 2 * n + 1 := by rw [e2]
  have k := h.take (us' := us.set n (fn us n + 1)) (all' := all ++ [((n : Int), fn us n)]) w hi hg (.inl hlo) (by rw [hlo]; unfold TT; omega) (by rw [List.length_set, h.ulen]) (fun j m hj hl hm => by
    rw [fn_set (fs := us) (by rw [h.ulen]; exact hn), fn_set (fs := gs) (by rw [h.glen]; exact hi)]
    show (if m = n then fn us n + 1 else fn us m) + (if j = i then fn gs i - 1 else fn gs j) = fn fs j
    have u := h.use j m hj hl hm
    by_cases e : m = n
    · subst e
      have : j = i := one_arc w hj hi hl hlo hn
      subst this
      rw [if_pos rfl, if_pos rfl]
      omega
    · rw [if_neg e, if_neg fun z => e (by rw [z, hlo] at hl; omega)]
      exact u) (fun m => by
    rw [fn_set (by rw [h.ulen]; exact hn)]
    show 0 ≤ if m = n then fn us n + 1 else fn us m
    have a := h.upos n
    have b := h.upos m
    split <;> omega) (fun q hq => by
    rw [fn_set (by rw [h.ulen]; exact hn)]
    show 0 ≤ q.1 ∧ q.2 < if q.1.toNat = n then fn us n + 1 else fn us q.1.toNat
    rcases List.mem_append.mp hq with hq | hq
    · obtain ⟨a, b⟩ := h.old q hq
      refine ⟨a, ?_⟩
      split
      · rename_i z
        rw [z] at b
        omega
      · exact b
    · rw [List.mem_singleton] at hq
      rw [hq]
      refine ⟨Int.natCast_nonneg n, ?_⟩
      rw [if_pos (Int.toNat_natCast n)]
      show fn us n < fn us n + 1
      omega) (by
    rw [List.nodup_append]
    refine ⟨h.nod, by simp, fun a ha b hb z => ?_⟩
    rw [List.mem_singleton] at hb
    have := (h.old a ha).2
    rw [z, hb] at this
    have this : fn us n < fn us ((n : Int)).toNat := this
    rw [Int.toNat_natCast] at this
    omega)
  have ns : ¬ (ar (arcs rs ws) i).lo = SS rs := by
    rw [hlo]
    unfold SS
    omega
  rw [if_neg ns, eh, Int.sub_zero] at k
  refine ⟨eh, k, h.upos n, ?_⟩
  unfold szN
  rw [e1]
  show fn us n < r.sz
  omega
/-- from a node on -/
theorem Stt.on {rs : List Rw} (w : WF rs) {ws fs gs us : List Int} {all : List Pr} {i n : Nat} {v : Int} (h : Stt rs ws fs gs us all (2 * n + 1) v) (hn : n < rs.length) (hi : i < (arcs rs ws).length) (hg : 0 < fn gs i) (hlo : (ar (arcs rs ws) i).lo = 2 * n + 1) :
    Stt rs ws fs (gs.set i (fn gs i - 1)) us all (ar (arcs rs ws) i).hi v := by
  have k := h.take w hi hg (.inl hlo) (by rw [hlo]; unfold TT; omega) h.ulen (fun j m hj hl hm => by
    rw [fn_set (by rw [h.glen]; exact hi)]
    show fn us m + (if j = i then fn gs i - 1 else fn gs j) = fn fs j
    rw [if_neg fun z => by rw [z, hlo] at hl; omega]
    exact h.use j m hj hl hm) h.upos h.old h.nod
  have ns : ¬ (ar (arcs rs ws) i).lo = SS rs := by
    rw [hlo]
    unfold SS
    omega
  rw [if_neg ns, Int.sub_zero] at k
  exact k
/-- a way goes on -/
theorem Part.on {rs : List Rw} (w : WF rs) {ws : List Int} {way : List Pr} {n i : Nat} {u : Int} (h : Part rs ws way (2 * n)) (hn : n < rs.length) (hi : i < (arcs rs ws).length) (hlo : (ar (arcs rs ws) i).lo = 2 * n + 1) (h0 : 0 ≤ u) (hu : u < szN rs n) : Part rs ws (way ++ [((n : Int), u)]) (ar (arcs rs ws) i).hi := by
  obtain ⟨n', r, e1, e2, e3, e4⟩ := h.node (by unfold TT; omega)
  have : n' = n := by omega
  subst this
  refine ⟨fun p hp => ?_, fun j a b ha hb => ?_, fun a ha => ?_, ?_⟩
  · rcases List.mem_append.mp hp with hp | hp
    · exact h.rng p hp
    · rw [List.mem_singleton] at hp
      rw [hp]
      exact ⟨Int.natCast_nonneg _, by show (n' : Int) < _; omega, h0, by show u < szN rs ((n' : Int)).toNat; rw [Int.toNat_natCast]; exact hu⟩
  · have hjl := (List.getElem?_eq_some_iff.mp hb).1
    rw [List.length_append, List.length_singleton] at hjl
    rw [List.getElem?_append_left (by omega)] at ha
    by_cases k : j + 1 < way.length
    · rw [List.getElem?_append_left k] at hb
      exact h.ops j a b ha hb
    · have ej : j + 1 = way.length := by omega
      rw [List.getElem?_append_right (by omega), ej, Nat.sub_self] at hb
      injection hb with hb
      rw [← hb]
      unfold opsN
      show a.1 ∈ match rs[((n' : Int)).toNat]? with | some r => r.ops | none => []
      rw [Int.toNat_natCast, e2]
      rcases e4 with ⟨z, _⟩ | ⟨c, hc, ho⟩
      · rw [z] at ej
        simp at ej
      · rw [List.getLast?_eq_getElem?, ← ej] at hc
        rw [show j + 1 - 1 = j from by omega] at hc
        rw [hc] at ha
        injection ha with ha
        rw [← ha]
        exact ho
  · rcases e4 with ⟨z, s⟩ | ⟨c, hc, ho⟩
    · subst z
      have ha : some ((n' : Int), u) = some a := ha
      injection ha with ha
      rw [← ha]
      unfold srcN
      show (match rs[((n' : Int)).toNat]? with | some r => r.src | none => false) = true
      rw [Int.toNat_natCast, e2]
      exact s
    · have : 0 < way.length := List.length_pos_iff.mpr fun z => by rw [z] at hc; cases hc
      rw [List.getElem?_append_left this] at ha
      exact h.src a ha
  · rcases from_out w hi hlo with ⟨k1, k2⟩ | ⟨m, r2, k1, k2, k3, k4⟩
    · exact .inl ⟨k1, by rw [List.length_append, List.length_singleton]; omega, _, List.getLast?_concat, k2⟩
    · exact .inr ⟨m, r2, k1, k2, by rw [List.length_append, List.length_singleton]; omega, .inr ⟨_, List.getLast?_concat, k3⟩⟩
/-- a wanted lot weighs little -/
theorem szN_le {rs : List Rw} (w : WF rs) (n : Nat) : szN rs n ≤ 3 := by
  unfold szN
  cases e : rs[n]? with
  | none => decide
  | some r =>
    show r.sz ≤ 3
    have := w n r e
    have h1 := this.1
    have h2 := this.2.2.2
    omega
theorem bnd_le {rs : List Rw} (w : WF rs) {ws : List Int} (hn : rs.length ≤ 20) : bnd rs ws ≤ 60 := by
  have h := sum_le_sum (g := fun (n : Nat) => if (n : Int) ∈ ws then szN rs n else 0) (h := fun _ => (3 : Int)) (l := lives rs ws) fun n _ => by
    show (if (n : Int) ∈ ws then szN rs n else 0) ≤ 3
    split
    · exact szN_le w n
    · decide
  have e : ∀ l : List Nat, (l.map fun _ => (3 : Int)).sum = 3 * l.length := fun l => by
    induction l with
    | nil => rfl
    | cons x l ih =>
      rw [List.map_cons, List.sum_cons, ih, List.length_cons]
      push_cast
      omega
  rw [e] at h
  have hl : (lives rs ws).length ≤ rs.length := by
    unfold lives
    refine Nat.le_trans (List.length_filter_le _ _) ?_
    rw [List.length_range]
    exact Nat.le_refl _
  unfold bnd
  omega
end NF
set_option Elab.async false
set_option linter.all false
set_option maxRecDepth 100000
set_option maxHeartbeats 4000000
namespace K15W
open PySem PySem.Spec PyProof.Rows L2 TL LW NT FL NF
local macro_rules | `(tactic| walk_at "ne") => `(tactic| first
  | (with_reducible assumption)
  | exact Ne.symm (by assumption)
  | (with_reducible exact ne_of_none (by assumption) (by assumption))
  | (with_reducible exact (ne_of_none (by assumption) (by assumption)).symm)
  | (apply ne_of_none; (case h' => assumption); (case h => walk_at "hp"))
  | (apply Ne.symm; apply ne_of_none; (case h' => assumption); (case h => walk_at "hp")))
local macro_rules | `(tactic| walk_at "hp") => `(tactic| first
  | (with_reducible assumption)
  | exact upd_same
  | (with_reducible exact hp_new (by assumption) (by assumption))
  | (apply hp_new; (case n => assumption); (case h => walk_at "hp"))
  | (refine (upd_ne ?ne).trans ?hp; (case ne => walk_at "ne"); (case hp => walk_at "hp")))
local macro_rules | `(tactic| walk_at "sq") => `(tactic| first
  | ((with_reducible show SqL _ _ _ _); assumption)
  | ((with_reducible show SqT _ _ _ _); assumption)
  | exact SqL.of (by assumption)
  | exact SqL.of upd_same
  | exact SqT.of (by assumption)
  | exact SqT.of upd_same
  | (apply SqL.of; walk_at "hp")
  | (apply SqT.of; walk_at "hp"))
local macro_rules | `(tactic| walk_at "len") => `(tactic| first
  | (with_reducible assumption)
  | exact sz_small (by omega)
  | exact sz_less (by omega)
  | decide
  | (refine sz_small ?_; simp only [List.length_append, List.length_cons, List.length_nil, List.length_map, str_len]; omega)
  | (refine sz_less ?_; simp only [List.length_append, List.length_cons, List.length_nil, List.length_map, str_len]; omega))
local macro_rules | `(tactic| walk_at "cond") => `(tactic| first
  | omega
  | (split <;> omega)
  | (with_reducible assumption)
  | exact .inl ⟨by omega, by omega⟩
  | exact .inr ⟨by omega, by omega⟩
  | exact ⟨by omega, by omega⟩
  | (show (0 : Int) < _; omega)
  | (show (0 : Int) < _; decide +kernel)
  | exact ⟨by omega, by omega, by decide⟩
  | walk_at "len"
  | rfl
  | (show CMulW _ _; unfold CMulW; decide +kernel)
  | exact ⟨_, rfl⟩
  | decide +kernel
  | exact ⟨_, by walk_at "sq"⟩
  | exact .inl ⟨rfl, _, by walk_at "sq"⟩)
local macro_rules | `(tactic| walk_at "at") => `(tactic| first
  | (with_reducible assumption)
  | exact atI_nat (by assumption)
  | exact atI_last _ _
  | exact atI_nat (j := 0) rfl
  | exact atI_nat (j := 1) rfl
  | exact atI_nat (j := 2) rfl
  | exact atI_nat (j := 3) rfl
  | exact atI_nat (j := 4) rfl)
local macro_rules | `(tactic| walk_at "ix") => `(tactic| first
  | (with_reducible assumption)
  | (with_reducible exact ixN_0 (by simp; done))
  | (with_reducible exact ixN_1 (by simp; done))
  | (with_reducible exact ixN_2 (by simp; done))
  | (with_reducible exact Evl.ixN_nat (by assumption))
  | (with_reducible exact Evl.ixN_nat (by omega)))
local macro_rules | `(tactic| walk_at "v") => `(tactic| first
  | exact val_var rfl
  | (with_reducible exact val_c)
  | (with_reducible apply val_orV; (case ha => walk_at "v"); (case hb => walk_at "v"))
  | (with_reducible apply val_andV; (case ha => walk_at "v"); (case hb => walk_at "v"))
  | (with_reducible apply val_notV; walk_at "v")
  | (with_reducible apply val_ifS; (case h => walk_at "w"); (case ha => walk_at "v"); (case hb => walk_at "v"))
  | (with_reducible apply val_ifI; (case h => walk_at "w"); (case ha => walk_at "v"); (case hb => walk_at "v"))
  | (with_reducible apply val_ifB; (case h => walk_at "w"); (case ha => walk_at "v"); (case hb => walk_at "v"))
  | (with_reducible apply val_eqS; (case ha => walk_at "v"); (case hb => walk_at "v"))
  | (with_reducible apply val_eqI; (case ha => walk_at "v"); (case hb => walk_at "v"))
  | (with_reducible apply val_neS; (case ha => walk_at "v"); (case hb => walk_at "v"))
  | (with_reducible apply val_neI; (case ha => walk_at "v"); (case hb => walk_at "v"))
  | (with_reducible apply val_op; (case ha => walk_at "v"); (case hb => walk_at "v"); (case hr => exact fun Q q => ⟨_, _, rfl, rfl, q⟩)))
local macro_rules | `(tactic| walk_at "w") => `(tactic| first
  | (with_reducible apply ans_or2; (case h1 => walk_at "w"); (case h2 => walk_at "w"))
  | (with_reducible apply ans_and2; (case h1 => walk_at "w"); (case h2 => walk_at "w"))
  | (with_reducible apply ans_not; walk_at "w")
  | (with_reducible apply ans_test; walk_at "v")
  | (with_reducible apply ans_val; walk_at "v"))
local macro_rules | `(tactic| walk_at "s2") => `(tactic| first
  | refine ⟨_, rfl, ?_⟩
  | refine ⟨_, _, rfl, rfl, ?_⟩
  | (refine And.intro ?cc ?_; (case cc => walk_at "cond"))
  | refine ⟨_, _, _, _, rfl, rfl, by walk_at "sq", by walk_at "at", ?_⟩
  | refine ⟨_, _, _, _, rfl, rfl, by walk_at "hp", by walk_at "ix", ?_⟩
  | refine ⟨_, _, _, _, rfl, rfl, by walk_at "hp", by walk_at "hp", by walk_at "len", ?_⟩
  | refine ⟨_, _, _, rfl, rfl, by walk_at "len", by walk_at "at", ?_⟩
  | refine ⟨_, _, _, rfl, rfl, by walk_at "hp", by walk_at "len", ?_⟩
  | refine ⟨_, _, _, rfl, rfl, by walk_at "hp", by walk_at "at", ?_⟩
  | refine ⟨_, _, rfl, rfl, by walk_at "sq", ?_⟩
  | refine ⟨_, _, rfl, rfl, by walk_at "len", ?_⟩
  | refine ⟨_, _, rfl, by walk_at "sq", ?_⟩
  | refine ⟨_, _, rfl, .inl (by walk_at "sq"), ?_⟩
  | refine ⟨_, _, rfl, .inr (by walk_at "sq"), ?_⟩
  | refine ⟨_, _, rfl, by walk_at "sq", rfl, ?_⟩
  | refine ⟨_, fun _ _ h => h, ?_⟩
  | refine .inl ⟨_, rfl, ?_⟩
  | refine ⟨_, _, .type "int", .type _, true, rfl, ClsV.ty _, .base (.int _), kit_ty (by decide +kernel), ?_⟩
  | refine ⟨_, _, .type "int", .type _, false, rfl, ClsV.ty _, .base (.int _), kit_ty (by decide +kernel), ?_⟩
  | refine ⟨_, _, .type "bool", .type _, true, rfl, ClsV.ty _, .base (.bl _), kit_ty (by decide +kernel), ?_⟩
  | refine ⟨_, _, .type "bool", .type _, false, rfl, ClsV.ty _, .base (.bl _), kit_ty (by decide +kernel), ?_⟩
  | refine ⟨_, _, .type "str", .type _, true, rfl, ClsV.ty _, .base (.str _), kit_ty (by decide +kernel), ?_⟩
  | refine ⟨_, _, .type "str", .type _, false, rfl, ClsV.ty _, .base (.str _), kit_ty (by decide +kernel), ?_⟩
  | refine ⟨_, _, .type "NoneType", .type _, true, rfl, ClsV.ty _, .base (.non), kit_ty (by decide +kernel), ?_⟩
  | refine ⟨_, _, .type "NoneType", .type _, false, rfl, ClsV.ty _, .base (.non), kit_ty (by decide +kernel), ?_⟩
  | refine ⟨_, _, .type "list", .type _, true, rfl, ClsV.ty _, .base (.lst (by walk_at "hp")), kit_ty (by decide +kernel), ?_⟩
  | refine ⟨_, _, .type "list", .type _, false, rfl, ClsV.ty _, .base (.lst (by walk_at "hp")), kit_ty (by decide +kernel), ?_⟩
  | refine ⟨_, _, .type "tuple", .type _, true, rfl, ClsV.ty _, .base (.tup (by walk_at "hp")), kit_ty (by decide +kernel), ?_⟩
  | refine ⟨_, _, .type "tuple", .type _, false, rfl, ClsV.ty _, .base (.tup (by walk_at "hp")), kit_ty (by decide +kernel), ?_⟩
  | fail)
local macro_rules | `(tactic| walk_at "s1") => `(tactic| first
  | (with_reducible refine go_gcons ?_)
  | (with_reducible refine go_gnil ?_)
  | (with_reducible refine go_seqM ?_)
  | (with_reducible refine go_nextM ?_)
  | (with_reducible refine go_contM ?_)
  | (with_reducible refine go_brkM ?_)
  | (with_reducible refine go_retM ?_)
  | (with_reducible refine go_asgM ?_)
  | (with_reducible refine go_test ?_)
  | (with_reducible refine go_rI0 ?_)
  | (with_reducible refine go_op ?_)
  | (with_reducible refine go_var rfl ?_)
  | ((with_reducible show tFor (iRng1 _) _ _ _ _ _); refine (show iRng1 _ _ _ _ from ?_))
  | (with_reducible refine go_rng1 ?_)
  | (with_reducible refine go_c ?_)
  | (with_reducible apply go_pick; (case hs => walk_at "hp"); (case h0 => walk_at "cond"); (case h1 => walk_at "cond"); (case' q => intro k a b c h0 h1))
  | (with_reducible refine go_nil ?_)
  | (with_reducible refine go_cons ?_)
  | (with_reducible refine go_call ?_)
  | (with_reducible refine go_cb ?_)
  | (with_reducible refine go_next ?_)
  | (with_reducible refine go_cont ?_)
  | (with_reducible refine go_ret ?_)
  | (with_reducible refine go_name ?_)
  | (with_reducible refine go_seq ?_)
  | (with_reducible refine go_asg ?_)
  | (with_reducible apply go_or; (case h => walk_at "v"))
  | (with_reducible apply go_and; (case h => walk_at "v"))
  | (with_reducible apply go_andL; (case h => walk_at "v"); (case' h1 => intro e); (case' h2 => intro e))
  | (with_reducible apply go_orL; (case h => walk_at "v"); (case' h1 => intro e); (case' h2 => intro e))
  | (with_reducible apply go_ifE; (case h => walk_at "v"))
  | (with_reducible apply go_ifOr; (case h => walk_at "w"); (case' h1 => intro e); (case' h2 => intro e))
  | (with_reducible apply go_ifAnd; (case h => walk_at "w"); (case' h1 => intro e); (case' h2 => intro e))
  | (with_reducible refine go_min ?_)
  | (with_reducible refine iteT ?_)
  | (with_reducible refine iteF ?_)
  | (with_reducible refine iteD (fun _ => ?_) (fun e => absurd rfl e))
  | (with_reducible refine iteS (fun e => ?_) (fun e => ?_))
  | (with_reducible refine iteI (fun e => ?_) (fun e => ?_))
  | (with_reducible refine iteSn (fun e => ?_) (fun e => ?_))
  | (with_reducible refine iteIn (fun e => ?_) (fun e => ?_))
  | (with_reducible refine iteD (fun e => ?_) (fun e => ?_))
  | (with_reducible refine iteDn (fun e => ?_) (fun e => ?_))
  | (with_reducible refine ite2 (fun e => ?_) (fun e => ?_))
  | (refine fun (p : Addr) (hp : _ = none) => ?_)
  | ((conv => whnf); walk_at "s2")
  | fail)
local macro_rules | `(tactic| walk_at "s") => `(tactic| repeat' (first
  | (with_reducible refine go_gcons ?_)
  | (with_reducible refine go_gnil ?_)
  | (with_reducible refine go_seqM ?_)
  | (with_reducible refine go_nextM ?_)
  | (with_reducible refine go_contM ?_)
  | (with_reducible refine go_brkM ?_)
  | (with_reducible refine go_retM ?_)
  | (with_reducible refine go_asgM ?_)
  | (with_reducible refine go_test ?_)
  | (with_reducible refine go_rI0 ?_)
  | (with_reducible refine go_op ?_)
  | (with_reducible refine go_var rfl ?_)
  | ((with_reducible show tFor (iRng1 _) _ _ _ _ _); refine (show iRng1 _ _ _ _ from ?_))
  | (with_reducible refine go_rng1 ?_)
  | (with_reducible refine go_c ?_)
  | (with_reducible apply go_pick; (case hs => walk_at "hp"); (case h0 => walk_at "cond"); (case h1 => walk_at "cond"); (case' q => intro k a b c h0 h1))
  | (with_reducible refine go_nil ?_)
  | (with_reducible refine go_cons ?_)
  | (with_reducible refine go_call ?_)
  | (with_reducible refine go_cb ?_)
  | (with_reducible refine go_next ?_)
  | (with_reducible refine go_cont ?_)
  | (with_reducible refine go_ret ?_)
  | (with_reducible refine go_name ?_)
  | (with_reducible refine go_seq ?_)
  | (with_reducible refine go_asg ?_)
  | (with_reducible apply go_or; (case h => walk_at "v"))
  | (with_reducible apply go_and; (case h => walk_at "v"))
  | (with_reducible apply go_andL; (case h => walk_at "v"); (case' h1 => intro e); (case' h2 => intro e))
  | (with_reducible apply go_orL; (case h => walk_at "v"); (case' h1 => intro e); (case' h2 => intro e))
  | (with_reducible apply go_ifE; (case h => walk_at "v"))
  | (with_reducible apply go_ifOr; (case h => walk_at "w"); (case' h1 => intro e); (case' h2 => intro e))
  | (with_reducible apply go_ifAnd; (case h => walk_at "w"); (case' h1 => intro e); (case' h2 => intro e))
  | (with_reducible refine go_min ?_)
  | (with_reducible refine iteT ?_)
  | (with_reducible refine iteF ?_)
  | (with_reducible refine iteD (fun _ => ?_) (fun e => absurd rfl e))
  | (with_reducible refine iteS (fun e => ?_) (fun e => ?_))
  | (with_reducible refine iteI (fun e => ?_) (fun e => ?_))
  | (with_reducible refine iteSn (fun e => ?_) (fun e => ?_))
  | (with_reducible refine iteIn (fun e => ?_) (fun e => ?_))
  | (with_reducible refine iteD (fun e => ?_) (fun e => ?_))
  | (with_reducible refine iteDn (fun e => ?_) (fun e => ?_))
  | (with_reducible refine ite2 (fun e => ?_) (fun e => ?_))
  | (refine fun (p : Addr) (hp : _ = none) => ?_)
  | ((conv => whnf); walk_at "s2")
  | fail))

section
variable {P : Program} {w : World} {K : PySem.W.Frag} {mg : Str → Option Value} {base : Heap}
/-! ### the ways -/
def PrV (H : Hp) (v : V) (p : Pr) : Prop := ∃ t, v = .ref t ∧ H t = some (.tup [.int p.1, .int p.2])
theorem PrV.ts {H H' : Hp} (e : Ts H H') {v : V} {p : Pr} : PrV H v p → PrV H' v p := fun ⟨t, h1, h2⟩ => ⟨t, h1, e _ _ h2⟩
def WayV (H : Hp) (v : V) (y : List Pr) : Prop := ∃ t ys, v = .ref t ∧ H t = some (.tup ys) ∧ Each (PrV H) ys y
theorem WayV.ts {H H' : Hp} (e : Ts H H') {v : V} {y : List Pr} : WayV H v y → WayV H' v y := fun ⟨t, ys, h1, h2, h3⟩ => ⟨t, ys, h1, e _ _ h2, h3.mono fun _ _ => PrV.ts e⟩
def WaysAt (H : Hp) (l : Addr) (ways : List (List Pr)) : Prop := ∃ xs, H l = some (.lst xs) ∧ Each (WayV H) xs ways
/-- a greatest lot of ways -/
structure Lot (rs : List Rw) (ws : List Int) (ways : List (List Pr)) : Prop where
  ok : ∀ y ∈ ways, WayOk rs ws y
  nod : ways.flatten.Nodup
  few : ways.length ≤ 60
  most : ∃ fs, NF.Max rs ws fs ∧ (ways.length : Int) = div (arcs rs ws) (fn fs) (SS rs)
theorem stt_vpos {rs : List Rw} (w : WF rs) {ws fs gs us : List Int} {all : List Pr} {p : Nat} {v : Int} (h : Stt rs ws fs gs us all p v) : 0 ≤ v := by
  rw [← h.val]
  unfold div
  refine sm_nonneg fun i hi => ?_
  rw [if_neg (hi_S w hi)]
  have := h.pos i hi
  split <;> omega
/-- where the taking apart stands -/
def Head (rs : List Rw) (ws fs gs us : List Int) (ways : List (List Pr)) (pt : V) (m : Nat) : Prop := (∀ y ∈ ways, WayOk rs ws y) ∧ ways.flatten.Nodup ∧ ((pt = V.non ∧ m = 0 ∧ (ways.length : Int) = div (arcs rs ws) (fn fs) (SS rs)) ∨ ∃ (p : Nat) (v : Int), pt = .int p ∧ Stt rs ws fs gs us ways.flatten p v ∧ Part rs ws [] p ∧ p ≠ TT rs ∧ (ways.length : Int) + 1 + v = div (arcs rs ws) (fn fs) (SS rs) ∧ (m : Int) = sm (fn gs) (arcs rs ws).length + 1)
theorem Head.done {rs : List Rw} (w : WF rs) {ws fs gs us : List Int} {ways : List (List Pr)} {v : Int} (ok : ∀ y ∈ ways, WayOk rs ws y) (h : Stt rs ws fs gs us ways.flatten (TT rs) v) (e : (ways.length : Int) + v = div (arcs rs ws) (fn fs) (SS rs)) (hno : ∀ i, i < (arcs rs ws).length → (ar (arcs rs ws) i).lo = SS rs → fn gs i ≤ 0) : Head rs ws fs gs us ways .non 0 :=
  ⟨ok, h.nod, .inl ⟨rfl, rfl, by have := h.done w hno; omega⟩⟩
theorem Head.leave {rs : List Rw} (w : WF rs) {ws fs gs us : List Int} {ways : List (List Pr)} {v : Int} {i : Nat} (ok : ∀ y ∈ ways, WayOk rs ws y) (h : Stt rs ws fs gs us ways.flatten (TT rs) v) (e : (ways.length : Int) + v = div (arcs rs ws) (fn fs) (SS rs)) (hi : i < (arcs rs ws).length) (hlo : (ar (arcs rs ws) i).lo = SS rs) (hg : 0 < fn gs i) :
    ∃ m : Nat, (m : Int) = sm (fn gs) (arcs rs ws).length ∧ Head rs ws fs (gs.set i (fn gs i - 1)) us ways (.int (ar (arcs rs ws) i).hi) m := by
  obtain ⟨a, b, c⟩ := h.leave w hi hg hlo
  have s0 := h.sum
  refine ⟨(sm (fn gs) (arcs rs ws).length).toNat, Int.toNat_of_nonneg s0, ok, h.nod, .inr ⟨_, _, rfl, a, b, c, by omega, ?_⟩⟩
  rw [sum_take hi h.glen, Int.toNat_of_nonneg s0]
  omega
def spGreat : Sp := fun vs H Q _ => ∃ (a k : Addr) (rs : List Rw) (ws : List Int), vs = [.ref a, .ref k] ∧ RowsL H a rs ∧ WF rs ∧ rs.length ≤ 20 ∧ Seq H k ws ∧ InR rs ws ∧ ws.length ≤ 100 ∧
  ∀ l H' ways, Same H H' → H l = none → WaysAt H' l ways → Lot rs ws ways → Q (.ref l) H'
theorem ok_great (T : Top w K mg) : FnOk P w K mg base CX0 6 T.a_greatest_ways T.d_greatest_ways ["rows", "wanted"] spGreat := by
  have G_Split___init__ := ok_split (P := P) (w := w) (base := base) T
  have G_step_on := ok_step (P := P) (w := w) (base := base) T
  refine T.F_greatest_ways.ok sc_greatest_ways (fun vs H Q E h => ?_) (fun cdv A0 outer s0 H vs Q E hr h => ?_)
  · obtain ⟨a, k, rs, ws, rfl, _⟩ := h
    rfl
  · obtain ⟨a, k, rs, ws, rfl, hR, hW, hn, hk, hw, hwl, q⟩ := h
    obtain ⟨xs, hX, hE⟩ := id hR
    have hXl := hE.len
    refine ⟨_, (pss_cons (ps_set (i := 2) sc_greatest_ways.nd rfl (.inl rfl) (pe_make T.M_Split___init__ G_Split___init__ (hr.mono (by omega)) rfl T.m_Split T.b_Split___init__ .nil pass0 (pa_cons (pv 0) (pa_cons (pv 1) pa_nil))))
    (pss_cons (ps_set (i := 3) sc_greatest_ways.nd rfl (.inl rfl) (pe_callTy call_list_of (by rfl) T.m_list (by decide +kernel) (pa_cons (pe_fld (pv 2) rfl) pa_nil)))
    (pss_cons (ps_set (i := 4) sc_greatest_ways.nd rfl (.inl rfl) (pe_op op_rep (pe_lst (pa_cons pe_int pa_nil)) (pe_callB call_len_seq (by rfl) T.m_len (by decide +kernel) (pa_cons (pv 0) pa_nil))))
    (pss_cons (ps_set (i := 5) sc_greatest_ways.nd rfl (.inl rfl) (pe_lst pa_nil))
    (Evl.pss_cut (ps_set (i := 6) sc_greatest_ways.nd rfl (.inl rfl) (pe_call G_step_on (hr.mono (by omega)) (by rfl) T.m_step_on T.F_step_on.kp T.b_step_on .nil pass0 (pa_cons (pv 2) (pa_cons (pv 3) (pa_cons (pe_op op_mul pe_int (pe_callB call_len_seq (by rfl) T.m_len (by decide +kernel) (pa_cons (pv 0) pa_nil))) pa_nil)))))
    (pss_cons (ps_while PassesOwn.never (pt_cmpR op_notN (pv 6) pe_non (nomark _))
    (pss_cons (ps_set (i := 7) sc_greatest_ways.nd rfl (.inl rfl) (pe_lst pa_nil))
    (pss_cons (ps_while PassesOwn.never (pt_cmpR op_ne (pv 6) (pe_op op_add (pe_op op_mul pe_int (pe_callB call_len_seq (by rfl) T.m_len (by decide +kernel) (pa_cons (pv 0) pa_nil))) pe_int) (nomark _))
    (pss_cons (ps_set (i := 8) sc_greatest_ways.nd rfl (.inl rfl) (pe_op op_fdiv (pv 6) pe_int))
    (pss_cons (ps_expr (pe_bm PySem.F.plainAttrs_list PySem.F.slot_list_append PySem.F.type_list_append mt_append (pv 7) (pa_cons (pe_tup (pa_cons (pv 8) (pa_cons (pe_ix ix_list (pv 4) (pv 8) (fun _ _ => rfl)) pa_nil))) pa_nil)))
    (pss_cons (ps_augS (pv 4) (pv 8) get_listN pe_int ip_add set_list)
    (pss_one (ps_set (i := 6) sc_greatest_ways.nd rfl (.inl rfl) (pe_call G_step_on (hr.mono (by omega)) (by rfl) T.m_step_on T.F_step_on.kp T.b_step_on .nil pass0 (pa_cons (pv 2) (pa_cons (pv 3) (pa_cons (pe_call G_step_on (hr.mono (by omega)) (by rfl) T.m_step_on T.F_step_on.kp T.b_step_on .nil pass0 (pa_cons (pv 2) (pa_cons (pv 3) (pa_cons (pv 6) pa_nil)))) pa_nil))))))))))
    (pss_cons (ps_expr (pe_bm PySem.F.plainAttrs_list PySem.F.slot_list_append PySem.F.type_list_append mt_append (pv 5) (pa_cons (pe_callTy call_tuple_of (by rfl) T.m_tuple (by decide +kernel) (pa_cons (pv 7) pa_nil)) pa_nil)))
    (pss_one (ps_set (i := 6) sc_greatest_ways.nd rfl (.inl rfl) (pe_call G_step_on (hr.mono (by omega)) (by rfl) T.m_step_on T.F_step_on.kp T.b_step_on .nil pass0 (pa_cons (pv 2) (pa_cons (pv 3) (pa_cons (pe_op op_mul pe_int (pe_callB call_len_seq (by rfl) T.m_len (by decide +kernel) (pa_cons (pv 0) pa_nil))) pa_nil))))))))))
    (pss_one (ps_ret (pv 5))))))))), ?_⟩
    walk_at "s"
    intro s dx ns ndx nsdx
    have smA : Same H (upd (upd H dx (.own s)) s (.ins T.C_Split dx [])) := (same_new ndx).trans (same_new ((upd_ne nsdx.symm).trans ns))
    refine ⟨s, a, k, dx, rs, ws, rfl, upd_same, RowsL.same smA hR, hW, hn, Seq.same smA hk, hw, hwl, fun H1 A L M0 fs but1 hs1 nLs nM0 hL hM0 mx => ⟨rfl, ?_⟩⟩
    have sm1 : Same H H1 := (((But.of (same_new ndx)).trans But.upd).trans but1).same ns
    have hL1 : LinesAt H1 L (arcs rs ws) (2 * rs.length + 2) := hL.same wo_same
    have hX1 := sm1 _ _ hX
    have aok := arcs_ok hW (ws := ws) hn
    have al := aok.1
    have mlen := mx.len
    clear hL but1 smA
    walk_at "s"
    refine ⟨s, T.C_Split, dx, _, .ref M0, rfl, hs1, T.cl_Split, T.n_Split_own_amounts, (by unfold splitF; rw [lookup_putF, if_pos rfl]), ?_⟩
    walk_at "s"
    rename_i M hM p0 hp0
    refine ⟨p0, (xs.length : Int), [.int 0], rfl, rfl, upd_same, by omega, by omega, sz_small (by show 1 * _ ≤ _; omega), fun U hU => ?_⟩
    have eU : (List.replicate ((xs.length : Int)).toNat [V.int 0]).flatten = (List.replicate rs.length (0 : Int)).map V.int := by
      rw [Int.toNat_natCast, hXl, List.map_replicate]
      exact List.flatten_replicate_singleton
    rw [eU]
    have nM : H1 M = none := hM
    have s1 := same_new (o := .lst (fs.map V.int)) hM
    have s2 := s1.trans (same_new (o := .lst [.int 0]) hp0)
    have sm2 := s2.trans (same_new (o := .lst ((List.replicate rs.length (0 : Int)).map V.int)) hU)
    have nU : H1 U = none := s2.free hU
    have hM2 : upd (upd (upd H1 M (.lst (fs.map V.int))) p0 (.lst [.int 0])) U (.lst ((List.replicate rs.length (0 : Int)).map V.int)) M = some (.lst (fs.map V.int)) := hp_new (hp_new upd_same hp0) hU
    have nMU : M ≠ U := ne_of_none (hp_new upd_same hp0) hU
    have hU2 : upd (upd (upd H1 M (.lst (fs.map V.int))) p0 (.lst [.int 0])) U (.lst ((List.replicate rs.length (0 : Int)).map V.int)) U = some (.lst ((List.replicate rs.length (0 : Int)).map V.int)) := upd_same
    generalize upd (upd (upd H1 M (.lst (fs.map V.int))) p0 (.lst [.int 0])) U (.lst ((List.replicate rs.length (0 : Int)).map V.int)) = H2 at sm2 hM2 hU2 ⊢
    walk_at "s"
    rename_i Wl hWl
    have nWl : H1 Wl = none := sm2.free hWl
    have nMW : M ≠ Wl := ne_of_none hM2 hWl
    have nUW : U ≠ Wl := ne_of_none hU2 hWl
    have s3 := same_new (o := .lst []) hWl
    have sm3 := sm2.trans s3
    have hM3 := s3 _ _ hM2
    have hU3 := s3 _ _ hU2
    have hW3 : upd H2 Wl (.lst []) Wl = some (.lst []) := upd_same
    generalize upd H2 Wl (.lst []) = H3 at sm3 hM3 hU3 hW3 ⊢
    have hX3 := sm3 _ _ hX1
    have st0 := Stt.start mx
    have v0 := stt_vpos hW st0
    have vb := value_le hW hw mx.flow
    have vb2 := bnd_le hW (ws := ws) hn
    refine go_cutM (fun σ H' => ∃ (pt : V) (gs : List Int) (m : Nat), σ = [some (.ref a), some (.ref k), some (.ref s), some (.ref M), some (.ref U), some (.ref Wl), some pt, none, none] ∧ Same H1 H' ∧ H' M = some (.lst (gs.map V.int)) ∧ H' U = some (.lst ((List.replicate rs.length (0 : Int)).map V.int)) ∧ H' Wl = some (.lst []) ∧ Head rs ws fs gs (List.replicate rs.length 0) [] pt m) ?_ fun σ H4 hM => ?_
    · walk_at "s"
      refine ⟨s, M, dx, A, L, M0, rs.length, SS rs, 2 * rs.length + 2, arcs rs ws, fs, by rw [hXl]; unfold SS; push_cast; rfl, sm3 _ _ hs1, hL1.same sm3, by unfold SS; omega, al, hM3, mlen, fun hno => ?_, fun i hi hlo hg H4 but4 hM4 => ?_⟩
      · walk_at "s"
        exact ⟨_, _, _, rfl, sm3, hM3, hU3, hW3, Head.done hW (by simp) st0 (by simp) hno⟩
      · walk_at "s"
        obtain ⟨m, _, hd⟩ := Head.leave (ways := []) hW (by simp) st0 (by simp) hi hlo hg
        exact ⟨_, _, _, rfl, fun b o e => but4 _ _ (ne_of_none e nM) (sm3 _ _ e), hM4, but4 _ _ nMU.symm hU3, but4 _ _ nMW.symm hW3, hd⟩
    obtain ⟨pt, gs, m, rfl, sm4, hM4, hU4, hW4, hd⟩ := hM
    clear hM3 hU3 hW3 sm3 hM2 hU2 sm2 hX3 s3
    walk_at "s"
    refine ⟨fun m σ H5 => ∃ (pt : V) (v7 v8 : Option V) (gs us : List Int) (ways : List (List Pr)) (zs : List V), σ = [some (.ref a), some (.ref k), some (.ref s), some (.ref M), some (.ref U), some (.ref Wl), some pt, v7, v8] ∧ Same H1 H5 ∧ H5 M = some (.lst (gs.map V.int)) ∧ H5 U = some (.lst (us.map V.int)) ∧ H5 Wl = some (.lst zs) ∧ Each (WayV H5) zs ways ∧ Head rs ws fs gs us ways pt m, ⟨m, pt, _, _, gs, _, [], [], rfl, sm4, hM4, hU4, hW4, .nil, hd⟩, fun m σ H5 hWh => ?_⟩
    obtain ⟨pt, v7, v8, gs, us, ways, zs, rfl, sm5, hM5, hU5, hW5, hZ, ok, nod, hd⟩ := hWh
    have hZl := hZ.len
    rcases hd with ⟨rfl, rfl, ec⟩ | ⟨p, v, rfl, st, pa, npT, ec, em⟩
    · walk_at "s"
      · rename_i e _ _
        exact absurd rfl e
      · exact q Wl H5 ways (sm1.trans sm5) (sm1.free nWl) ⟨zs, hW5, hZ⟩ ⟨ok, nod, by omega, fs, mx, ec⟩
    · have hv := stt_vpos hW st
      walk_at "s"
      · rename_i B hB
        have nBM : M ≠ B := ne_of_none hM5 hB
        have nBU : U ≠ B := ne_of_none hU5 hB
        have nBW : Wl ≠ B := ne_of_none hW5 hB
        have nB1 : H1 B = none := sm5.free hB
        have s6 := same_new (o := .lst []) hB
        refine ⟨fun m2 σ H6 => ∃ (v8 : Option V) (p : Nat) (gs us : List Int) (way : List Pr) (ys : List V), σ = [some (.ref a), some (.ref k), some (.ref s), some (.ref M), some (.ref U), some (.ref Wl), some (.int p), some (.ref B), v8] ∧ Same H1 H6 ∧ H6 M = some (.lst (gs.map V.int)) ∧ H6 U = some (.lst (us.map V.int)) ∧ H6 Wl = some (.lst zs) ∧ Each (WayV H6) zs ways ∧ H6 B = some (.lst ys) ∧ Each (PrV H6) ys way ∧ Stt rs ws fs gs us (ways.flatten ++ way) p v ∧ Part rs ws way p ∧ (m2 : Int) = sm (fn gs) (arcs rs ws).length ∧ m2 + 1 ≤ m, ?_, fun m2 σ H6 hWh => ?_⟩
        · exact ⟨m - 1, _, p, gs, us, [], [], rfl, sm5.trans s6, s6 _ _ hM5, s6 _ _ hU5, s6 _ _ hW5, hZ.mono fun _ _ => WayV.ts (Ts.of s6), upd_same, .nil, by rw [List.append_nil]; exact st, pa, by have := st.sum; omega, by have := st.sum; omega⟩
        · clear hU5 hM5 hW5 hZ st pa em npT
          obtain ⟨v8, p, gs, us, way, ys, rfl, sm6, hM6, hU6, hW6, hZ, hB6, hY, st, pa, em, hm⟩ := hWh
          have hYl := hY.len
          have hX6 := sm6 _ _ hX1
          have glen := st.glen
          have ulen := st.ulen
          by_cases eT : p = NF.TT rs
          · subst eT
            walk_at "s"
            · rename_i e
              exact absurd (by rw [hXl]; unfold NF.TT; push_cast; rfl) e
            refine ⟨B, ys, rfl, .inl ⟨SqL.of hB6, fun t ht => ?_⟩⟩
            have wok := pa.done
            have s7 := same_new (o := .tup ys) ht
            have fl : (ways ++ [way]).flatten = ways.flatten ++ way := by rw [List.flatten_append, List.flatten_singleton]
            have ok2 : ∀ y ∈ ways ++ [way], WayOk rs ws y := fun y hy => by
              rcases List.mem_append.mp hy with hy | hy
              · exact ok y hy
              · rw [List.mem_singleton] at hy
                rw [hy]
                exact wok
            have ec2 : ((ways ++ [way]).length : Int) + v = div (arcs rs ws) (fn fs) (SS rs) := by
              rw [List.length_append, List.length_singleton]
              push_cast
              omega
            have zl : zs.length ≤ 60 := by omega
            have hW7' := s7 _ _ hW6
            walk_at "s"
            have sm7 : Same H1 (upd (upd H6 t (.tup ys)) Wl (.lst (zs ++ [.ref t]))) := same_mut (sm6.trans s7) nWl
            have hM7 : upd (upd H6 t (.tup ys)) Wl (.lst (zs ++ [.ref t])) M = _ := (upd_ne nMW).trans (s7 _ _ hM6)
            have hU7 : upd (upd H6 t (.tup ys)) Wl (.lst (zs ++ [.ref t])) U = _ := (upd_ne nUW).trans (s7 _ _ hU6)
            have hW7 : upd (upd H6 t (.tup ys)) Wl (.lst (zs ++ [.ref t])) Wl = some (.lst (zs ++ [.ref t])) := upd_same
            have t7 : Ts H6 (upd (upd H6 t (.tup ys)) Wl (.lst (zs ++ [.ref t]))) := (Ts.of s7).trans (Ts.upd hW7')
            have ht7 : upd (upd H6 t (.tup ys)) Wl (.lst (zs ++ [.ref t])) t = some (.tup ys) := (upd_ne (ne_of_none hW6 ht).symm).trans upd_same
            generalize upd (upd H6 t (.tup ys)) Wl (.lst (zs ++ [.ref t])) = H7 at sm7 hM7 hU7 hW7 t7 ht7 ⊢
            have hZ7 : Each (WayV H7) (zs ++ [.ref t]) (ways ++ [way]) := (hZ.mono fun _ _ => WayV.ts t7).snoc ⟨t, ys, rfl, ht7, hY.mono fun _ _ => PrV.ts t7⟩
            have hX7 := sm7 _ _ hX1
            rw [← fl] at st
            walk_at "s"
            have m1 := st.sum
            refine ⟨s, M, dx, A, L, M0, rs.length, SS rs, 2 * rs.length + 2, arcs rs ws, gs, by rw [hXl]; unfold SS; push_cast; rfl, sm7 _ _ hs1, hL1.same sm7, by unfold SS; omega, al, hM7, st.glen, fun hno => ?_, fun i hi hlo hg H8 but8 hM8 => ?_⟩
            · walk_at "s"
              exact ⟨0, by omega, _, _, _, gs, us, _, _, rfl, sm7, hM7, hU7, hW7, hZ7, Head.done hW ok2 st ec2 hno⟩
            · walk_at "s"
              obtain ⟨m3, e3, hd⟩ := Head.leave hW ok2 st ec2 hi hlo hg
              exact ⟨m3, by omega, _, _, _, _, us, _, _, rfl, fun b o e => but8 _ _ (ne_of_none e nM) (sm7 _ _ e), hM8, but8 _ _ nMU.symm hU7, but8 _ _ nMW.symm hW7, hZ7.mono fun _ _ => WayV.ts (Ts.but but8 hM7), hd⟩
          · obtain ⟨n, r, rfl, er, hlen, _⟩ := pa.node eT
            have hnl := (List.getElem?_eq_some_iff.mp er).1
            have e2 : ((2 * n : Nat) : Int) / 2 = (n : Int) := by omega
            have hat := fn_at (fs := us) (i := n) (by omega)
            have hix : ixN (us.map V.int).length (n : Int) = some n := Evl.ixN_nat (by rw [List.length_map]; omega)
            walk_at "s"
            · simp only [e2]
              refine ⟨U, _, _, _, rfl, rfl, SqL.of hU6, hat, ?_⟩
              have hyl20 : ys.length ≤ 20 := by omega
              walk_at "s"
              rename_i t ht
              have s7 := same_new (o := .tup [.int (n : Int), .int (fn us n)]) ht
              have sm7 : Same H1 (upd (upd H6 t (.tup [.int (n : Int), .int (fn us n)])) B (.lst (ys ++ [.ref t]))) := same_mut (sm6.trans s7) nB1
              have hM7 : upd (upd H6 t (.tup [.int (n : Int), .int (fn us n)])) B (.lst (ys ++ [.ref t])) M = _ := (upd_ne nBM).trans (s7 _ _ hM6)
              have hU7 : upd (upd H6 t (.tup [.int (n : Int), .int (fn us n)])) B (.lst (ys ++ [.ref t])) U = _ := (upd_ne nBU).trans (s7 _ _ hU6)
              have hW7 : upd (upd H6 t (.tup [.int (n : Int), .int (fn us n)])) B (.lst (ys ++ [.ref t])) Wl = _ := (upd_ne nBW).trans (s7 _ _ hW6)
              have hB7 : upd (upd H6 t (.tup [.int (n : Int), .int (fn us n)])) B (.lst (ys ++ [.ref t])) B = some (.lst (ys ++ [.ref t])) := upd_same
              have t7 : Ts H6 (upd (upd H6 t (.tup [.int (n : Int), .int (fn us n)])) B (.lst (ys ++ [.ref t]))) := (Ts.of s7).trans (Ts.upd (s7 _ _ hB6))
              have ht7 : upd (upd H6 t (.tup [.int (n : Int), .int (fn us n)])) B (.lst (ys ++ [.ref t])) t = some (.tup [.int (n : Int), .int (fn us n)]) := (upd_ne (ne_of_none hB6 ht).symm).trans upd_same
              generalize upd (upd H6 t (.tup [.int (n : Int), .int (fn us n)])) B (.lst (ys ++ [.ref t])) = H7 at sm7 hM7 hU7 hW7 hB7 t7 ht7 ⊢
              have hZ7 := hZ.mono fun _ _ => WayV.ts t7
              have hY7 : Each (PrV H7) (ys ++ [.ref t]) (way ++ [((n : Int), fn us n)]) := (hY.mono fun _ _ => PrV.ts t7).snoc ⟨t, rfl, ht7⟩
              clear hM6 hU6 hW6 hB6 hY hZ hX6 ht s7
              refine ⟨U, _, n, _, rfl, rfl, SqL.of hU7, by omega, hat, ?_⟩
              refine ⟨_, _, rfl, rfl, ?_⟩
              refine ⟨U, _, n, n, rfl, rfl, hU7, hix, ?_⟩
              have sm8 : Same H1 (upd H7 U (.lst ((us.map V.int).set n (.int (fn us n + 1))))) := same_mut sm7 nU
              have hM8 : upd H7 U (.lst ((us.map V.int).set n (.int (fn us n + 1)))) M = _ := (upd_ne nMU).trans hM7
              have hU8 : upd H7 U (.lst ((us.map V.int).set n (.int (fn us n + 1)))) U = some (.lst ((us.set n (fn us n + 1)).map V.int)) := by rw [upd_same, List.map_set]
              have hW8 : upd H7 U (.lst ((us.map V.int).set n (.int (fn us n + 1)))) Wl = _ := (upd_ne nUW.symm).trans hW7
              have hB8 : upd H7 U (.lst ((us.map V.int).set n (.int (fn us n + 1)))) B = _ := (upd_ne nBU.symm).trans hB7
              have t8 : Ts H7 (upd H7 U (.lst ((us.map V.int).set n (.int (fn us n + 1))))) := Ts.upd hU7
              generalize upd H7 U (.lst ((us.map V.int).set n (.int (fn us n + 1)))) = H8 at sm8 hM8 hU8 hW8 hB8 t8 ⊢
              have hZ8 := hZ7.mono fun _ _ => WayV.ts t8
              have hY8 := hY7.mono fun _ _ => PrV.ts t8
              clear hM7 hU7 hW7 hB7 hZ7 hY7 ht7
              walk_at "s"
              refine ⟨s, M, dx, A, L, M0, rs.length, 2 * n, 2 * rs.length + 2, arcs rs ws, gs, rfl, sm8 _ _ hs1, hL1.same sm8, by omega, al, hM8, glen, fun hno => ?_, fun i hi hlo hg H9 but9 hM9 => ?_⟩
              · exact (st.can (by unfold SS; omega) eT hno).elim
              · obtain ⟨eh, st2, u0, u1⟩ := st.through hW mx hnl hi hg hlo
                rw [eh]
                have sm9 : Same H1 H9 := fun b o e => but9 _ _ (ne_of_none e nM) (sm8 _ _ e)
                walk_at "s"
                refine ⟨s, M, dx, A, L, M0, rs.length, 2 * n + 1, 2 * rs.length + 2, arcs rs ws, gs.set i (fn gs i - 1), rfl, sm9 _ _ hs1, hL1.same sm9, by omega, al, hM9, st2.glen, fun hno => ?_, fun i2 hi2 hlo2 hg2 H10 but10 hM10 => ?_⟩
                · exact (st2.can (by unfold SS; omega) (by unfold NF.TT; omega) hno).elim
                · have st3 := st2.on hW hnl hi2 hg2 hlo2
                  have pa3 := pa.on hW hnl hi2 hlo2 u0 u1
                  have sm10 : Same H1 H10 := fun b o e => but10 _ _ (ne_of_none e nM) (sm9 _ _ e)
                  have t10 : Ts H8 H10 := (Ts.but but9 hM8).trans (Ts.but but10 hM9)
                  have sum3 := st3.sum
                  have e1 := sum_take hi st.glen
                  have e3 := sum_take hi2 st2.glen
                  rw [List.append_assoc] at st3
                  walk_at "s"
                  exact ⟨(sm (fn ((gs.set i (fn gs i - 1)).set i2 (fn (gs.set i (fn gs i - 1)) i2 - 1))) (arcs rs ws).length).toNat, by omega, _, _, _, _, _, _, rfl, sm10, hM10, but10 _ _ nMU.symm (but9 _ _ nMU.symm hU8), but10 _ _ nMW.symm (but9 _ _ nMW.symm hW8), hZ8.mono fun _ _ => WayV.ts t10, but10 _ _ nBM.symm (but9 _ _ nBM.symm hB8), hY8.mono fun _ _ => PrV.ts t10, st3, pa3, Int.toNat_of_nonneg sum3, by omega⟩
            · rename_i e
              exact absurd e (by unfold NF.TT at eT; omega)
      · rename_i e
        first | exact absurd rfl e | cases e
end
end K15W
set_option Elab.async false
set_option linter.all false
set_option maxRecDepth 100000
set_option maxHeartbeats 4000000
namespace K15W
open PySem PySem.Spec PyProof.Rows L2 TL LW NT FL NF
local macro_rules | `(tactic| walk_at "ne") => `(tactic| first
  | (with_reducible assumption)
  | exact Ne.symm (by assumption)
  | (with_reducible exact ne_of_none (by assumption) (by assumption))
  | (with_reducible exact (ne_of_none (by assumption) (by assumption)).symm)
  | (apply ne_of_none; (case h' => assumption); (case h => walk_at "hp"))
  | (apply Ne.symm; apply ne_of_none; (case h' => assumption); (case h => walk_at "hp")))
local macro_rules | `(tactic| walk_at "hp") => `(tactic| first
  | (with_reducible assumption)
  | exact upd_same
  | (with_reducible exact hp_new (by assumption) (by assumption))
  | (apply hp_new; (case n => assumption); (case h => walk_at "hp"))
  | (refine (upd_ne ?ne).trans ?hp; (case ne => walk_at "ne"); (case hp => walk_at "hp")))
local macro_rules | `(tactic| walk_at "sq") => `(tactic| first
  | ((with_reducible show SqL _ _ _ _); assumption)
  | ((with_reducible show SqT _ _ _ _); assumption)
  | exact SqL.of (by assumption)
  | exact SqL.of upd_same
  | exact SqT.of (by assumption)
  | exact SqT.of upd_same
  | (apply SqL.of; walk_at "hp")
  | (apply SqT.of; walk_at "hp"))
local macro_rules | `(tactic| walk_at "len") => `(tactic| first
  | (with_reducible assumption)
  | exact sz_small (by omega)
  | exact sz_less (by omega)
  | decide
  | (refine sz_small ?_; simp only [List.length_append, List.length_cons, List.length_nil, List.length_map, str_len]; omega)
  | (refine sz_less ?_; simp only [List.length_append, List.length_cons, List.length_nil, List.length_map, str_len]; omega))
local macro_rules | `(tactic| walk_at "cond") => `(tactic| first
  | omega
  | (split <;> omega)
  | (with_reducible assumption)
  | exact .inl ⟨by omega, by omega⟩
  | exact .inr ⟨by omega, by omega⟩
  | exact ⟨by omega, by omega⟩
  | (show (0 : Int) < _; omega)
  | (show (0 : Int) < _; decide +kernel)
  | exact ⟨by omega, by omega, by decide⟩
  | walk_at "len"
  | rfl
  | (show CMulW _ _; unfold CMulW; decide +kernel)
  | exact ⟨_, rfl⟩
  | decide +kernel
  | exact ⟨_, by walk_at "sq"⟩
  | exact .inl ⟨rfl, _, by walk_at "sq"⟩)
local macro_rules | `(tactic| walk_at "at") => `(tactic| first
  | (with_reducible assumption)
  | exact atI_nat (by assumption)
  | exact atI_last _ _
  | exact atI_nat (j := 0) rfl
  | exact atI_nat (j := 1) rfl
  | exact atI_nat (j := 2) rfl
  | exact atI_nat (j := 3) rfl
  | exact atI_nat (j := 4) rfl)
local macro_rules | `(tactic| walk_at "ix") => `(tactic| first
  | (with_reducible assumption)
  | (with_reducible exact ixN_0 (by simp; done))
  | (with_reducible exact ixN_1 (by simp; done))
  | (with_reducible exact ixN_2 (by simp; done))
  | (with_reducible exact Evl.ixN_nat (by assumption))
  | (with_reducible exact Evl.ixN_nat (by omega)))
local macro_rules | `(tactic| walk_at "v") => `(tactic| first
  | exact val_var rfl
  | (with_reducible exact val_c)
  | (with_reducible apply val_orV; (case ha => walk_at "v"); (case hb => walk_at "v"))
  | (with_reducible apply val_andV; (case ha => walk_at "v"); (case hb => walk_at "v"))
  | (with_reducible apply val_notV; walk_at "v")
  | (with_reducible apply val_ifS; (case h => walk_at "w"); (case ha => walk_at "v"); (case hb => walk_at "v"))
  | (with_reducible apply val_ifI; (case h => walk_at "w"); (case ha => walk_at "v"); (case hb => walk_at "v"))
  | (with_reducible apply val_ifB; (case h => walk_at "w"); (case ha => walk_at "v"); (case hb => walk_at "v"))
  | (with_reducible apply val_eqS; (case ha => walk_at "v"); (case hb => walk_at "v"))
  | (with_reducible apply val_eqI; (case ha => walk_at "v"); (case hb => walk_at "v"))
  | (with_reducible apply val_neS; (case ha => walk_at "v"); (case hb => walk_at "v"))
  | (with_reducible apply val_neI; (case ha => walk_at "v"); (case hb => walk_at "v"))
  | (with_reducible apply val_op; (case ha => walk_at "v"); (case hb => walk_at "v"); (case hr => exact fun Q q => ⟨_, _, rfl, rfl, q⟩)))
local macro_rules | `(tactic| walk_at "w") => `(tactic| first
  | (with_reducible apply ans_or2; (case h1 => walk_at "w"); (case h2 => walk_at "w"))
  | (with_reducible apply ans_and2; (case h1 => walk_at "w"); (case h2 => walk_at "w"))
  | (with_reducible apply ans_not; walk_at "w")
  | (with_reducible apply ans_test; walk_at "v")
  | (with_reducible apply ans_val; walk_at "v"))
local macro_rules | `(tactic| walk_at "s2") => `(tactic| first
  | refine ⟨_, rfl, ?_⟩
  | refine ⟨_, _, rfl, rfl, ?_⟩
  | (refine And.intro ?cc ?_; (case cc => walk_at "cond"))
  | refine ⟨_, _, _, _, rfl, rfl, by walk_at "sq", by walk_at "at", ?_⟩
  | refine ⟨_, _, _, _, rfl, rfl, by walk_at "hp", by walk_at "ix", ?_⟩
  | refine ⟨_, _, _, _, rfl, rfl, by walk_at "hp", by walk_at "hp", by walk_at "len", ?_⟩
  | refine ⟨_, _, _, rfl, rfl, by walk_at "len", by walk_at "at", ?_⟩
  | refine ⟨_, _, _, rfl, rfl, by walk_at "hp", by walk_at "len", ?_⟩
  | refine ⟨_, _, _, rfl, rfl, by walk_at "hp", by walk_at "at", ?_⟩
  | refine ⟨_, _, rfl, rfl, by walk_at "sq", ?_⟩
  | refine ⟨_, _, rfl, rfl, by walk_at "len", ?_⟩
  | refine ⟨_, _, rfl, by walk_at "sq", ?_⟩
  | refine ⟨_, _, rfl, .inl (by walk_at "sq"), ?_⟩
  | refine ⟨_, _, rfl, .inr (by walk_at "sq"), ?_⟩
  | refine ⟨_, _, rfl, by walk_at "sq", rfl, ?_⟩
  | refine ⟨_, fun _ _ h => h, ?_⟩
  | refine .inl ⟨_, rfl, ?_⟩
  | refine ⟨_, _, .type "int", .type _, true, rfl, ClsV.ty _, .base (.int _), kit_ty (by decide +kernel), ?_⟩
  | refine ⟨_, _, .type "int", .type _, false, rfl, ClsV.ty _, .base (.int _), kit_ty (by decide +kernel), ?_⟩
  | refine ⟨_, _, .type "bool", .type _, true, rfl, ClsV.ty _, .base (.bl _), kit_ty (by decide +kernel), ?_⟩
  | refine ⟨_, _, .type "bool", .type _, false, rfl, ClsV.ty _, .base (.bl _), kit_ty (by decide +kernel), ?_⟩
  | refine ⟨_, _, .type "str", .type _, true, rfl, ClsV.ty _, .base (.str _), kit_ty (by decide +kernel), ?_⟩
  | refine ⟨_, _, .type "str", .type _, false, rfl, ClsV.ty _, .base (.str _), kit_ty (by decide +kernel), ?_⟩
  | refine ⟨_, _, .type "NoneType", .type _, true, rfl, ClsV.ty _, .base (.non), kit_ty (by decide +kernel), ?_⟩
  | refine ⟨_, _, .type "NoneType", .type _, false, rfl, ClsV.ty _, .base (.non), kit_ty (by decide +kernel), ?_⟩
  | refine ⟨_, _, .type "list", .type _, true, rfl, ClsV.ty _, .base (.lst (by walk_at "hp")), kit_ty (by decide +kernel), ?_⟩
  | refine ⟨_, _, .type "list", .type _, false, rfl, ClsV.ty _, .base (.lst (by walk_at "hp")), kit_ty (by decide +kernel), ?_⟩
  | refine ⟨_, _, .type "tuple", .type _, true, rfl, ClsV.ty _, .base (.tup (by walk_at "hp")), kit_ty (by decide +kernel), ?_⟩
  | refine ⟨_, _, .type "tuple", .type _, false, rfl, ClsV.ty _, .base (.tup (by walk_at "hp")), kit_ty (by decide +kernel), ?_⟩
  | fail)
local macro_rules | `(tactic| walk_at "s1") => `(tactic| first
  | (with_reducible refine go_gcons ?_)
  | (with_reducible refine go_gnil ?_)
  | (with_reducible refine go_seqM ?_)
  | (with_reducible refine go_nextM ?_)
  | (with_reducible refine go_contM ?_)
  | (with_reducible refine go_brkM ?_)
  | (with_reducible refine go_retM ?_)
  | (with_reducible refine go_asgM ?_)
  | (with_reducible refine go_test ?_)
  | (with_reducible refine go_rI0 ?_)
  | (with_reducible refine go_op ?_)
  | (with_reducible refine go_var rfl ?_)
  | ((with_reducible show tFor (iRng1 _) _ _ _ _ _); refine (show iRng1 _ _ _ _ from ?_))
  | (with_reducible refine go_rng1 ?_)
  | (with_reducible refine go_c ?_)
  | (with_reducible apply go_pick; (case hs => walk_at "hp"); (case h0 => walk_at "cond"); (case h1 => walk_at "cond"); (case' q => intro k a b c h0 h1))
  | (with_reducible refine go_nil ?_)
  | (with_reducible refine go_cons ?_)
  | (with_reducible refine go_call ?_)
  | (with_reducible refine go_cb ?_)
  | (with_reducible refine go_next ?_)
  | (with_reducible refine go_cont ?_)
  | (with_reducible refine go_ret ?_)
  | (with_reducible refine go_name ?_)
  | (with_reducible refine go_seq ?_)
  | (with_reducible refine go_asg ?_)
  | (with_reducible apply go_or; (case h => walk_at "v"))
  | (with_reducible apply go_and; (case h => walk_at "v"))
  | (with_reducible apply go_andL; (case h => walk_at "v"); (case' h1 => intro e); (case' h2 => intro e))
  | (with_reducible apply go_orL; (case h => walk_at "v"); (case' h1 => intro e); (case' h2 => intro e))
  | (with_reducible apply go_ifE; (case h => walk_at "v"))
  | (with_reducible apply go_ifOr; (case h => walk_at "w"); (case' h1 => intro e); (case' h2 => intro e))
  | (with_reducible apply go_ifAnd; (case h => walk_at "w"); (case' h1 => intro e); (case' h2 => intro e))
  | (with_reducible refine go_min ?_)
  | (with_reducible refine iteT ?_)
  | (with_reducible refine iteF ?_)
  | (with_reducible refine iteD (fun _ => ?_) (fun e => absurd rfl e))
  | (with_reducible refine iteS (fun e => ?_) (fun e => ?_))
  | (with_reducible refine iteI (fun e => ?_) (fun e => ?_))
  | (with_reducible refine iteSn (fun e => ?_) (fun e => ?_))
  | (with_reducible refine iteIn (fun e => ?_) (fun e => ?_))
  | (with_reducible refine iteD (fun e => ?_) (fun e => ?_))
  | (with_reducible refine iteDn (fun e => ?_) (fun e => ?_))
  | (with_reducible refine ite2 (fun e => ?_) (fun e => ?_))
  | (refine fun (p : Addr) (hp : _ = none) => ?_)
  | ((conv => whnf); walk_at "s2")
  | fail)
local macro_rules | `(tactic| walk_at "s") => `(tactic| repeat' (first
  | (with_reducible refine go_gcons ?_)
  | (with_reducible refine go_gnil ?_)
  | (with_reducible refine go_seqM ?_)
  | (with_reducible refine go_nextM ?_)
  | (with_reducible refine go_contM ?_)
  | (with_reducible refine go_brkM ?_)
  | (with_reducible refine go_retM ?_)
  | (with_reducible refine go_asgM ?_)
  | (with_reducible refine go_test ?_)
  | (with_reducible refine go_rI0 ?_)
  | (with_reducible refine go_op ?_)
  | (with_reducible refine go_var rfl ?_)
  | ((with_reducible show tFor (iRng1 _) _ _ _ _ _); refine (show iRng1 _ _ _ _ from ?_))
  | (with_reducible refine go_rng1 ?_)
  | (with_reducible refine go_c ?_)
  | (with_reducible apply go_pick; (case hs => walk_at "hp"); (case h0 => walk_at "cond"); (case h1 => walk_at "cond"); (case' q => intro k a b c h0 h1))
  | (with_reducible refine go_nil ?_)
  | (with_reducible refine go_cons ?_)
  | (with_reducible refine go_call ?_)
  | (with_reducible refine go_cb ?_)
  | (with_reducible refine go_next ?_)
  | (with_reducible refine go_cont ?_)
  | (with_reducible refine go_ret ?_)
  | (with_reducible refine go_name ?_)
  | (with_reducible refine go_seq ?_)
  | (with_reducible refine go_asg ?_)
  | (with_reducible apply go_or; (case h => walk_at "v"))
  | (with_reducible apply go_and; (case h => walk_at "v"))
  | (with_reducible apply go_andL; (case h => walk_at "v"); (case' h1 => intro e); (case' h2 => intro e))
  | (with_reducible apply go_orL; (case h => walk_at "v"); (case' h1 => intro e); (case' h2 => intro e))
  | (with_reducible apply go_ifE; (case h => walk_at "v"))
  | (with_reducible apply go_ifOr; (case h => walk_at "w"); (case' h1 => intro e); (case' h2 => intro e))
  | (with_reducible apply go_ifAnd; (case h => walk_at "w"); (case' h1 => intro e); (case' h2 => intro e))
  | (with_reducible refine go_min ?_)
  | (with_reducible refine iteT ?_)
  | (with_reducible refine iteF ?_)
  | (with_reducible refine iteD (fun _ => ?_) (fun e => absurd rfl e))
  | (with_reducible refine iteS (fun e => ?_) (fun e => ?_))
  | (with_reducible refine iteI (fun e => ?_) (fun e => ?_))
  | (with_reducible refine iteSn (fun e => ?_) (fun e => ?_))
  | (with_reducible refine iteIn (fun e => ?_) (fun e => ?_))
  | (with_reducible refine iteD (fun e => ?_) (fun e => ?_))
  | (with_reducible refine iteDn (fun e => ?_) (fun e => ?_))
  | (with_reducible refine ite2 (fun e => ?_) (fun e => ?_))
  | (refine fun (p : Addr) (hp : _ = none) => ?_)
  | ((conv => whnf); walk_at "s2")
  | fail))

section
variable {P : Program} {w : World} {K : PySem.W.Frag} {mg : Str → Option Value} {base : Heap}
/-! ### Net.greatest -/
def WaysT (H : Hp) (l : Addr) (ways : List (List Pr)) : Prop := ∃ xs, H l = some (.tup xs) ∧ Each (WayV H) xs ways
def spGreatest (T : Top w K mg) : Sp := fun vs H Q _ => ∃ (p k : Addr) (rs : List Rw) (ws : List Int), vs = [.ref p, .ref k] ∧ NetAt T H p rs ∧ WF rs ∧ rs.length ≤ 20 ∧ Seq H k ws ∧ InR rs ws ∧ ws.length ≤ 100 ∧
  ∀ t y H' ways, Same H H' → H t = none → H' t = some (.tup [.int (ways.length : Nat), .ref y]) → WaysT H' y ways → Lot rs ws ways → Q (.ref t) H'
theorem ok_greatest (T : Top w K mg) : FnOk P w K mg base CX0 7 T.a_Net_greatest T.d_Net_greatest ["self", "wanted"] (spGreatest T) := by
  have G_greatest_ways := ok_great (P := P) (w := w) (base := base) T
  refine T.F_Net_greatest.ok sc_Net_greatest (fun vs H Q E h => ?_) (fun cdv A0 outer s0 H vs Q E hr h => ?_)
  · obtain ⟨p, k, rs, ws, rfl, _⟩ := h
    rfl
  · obtain ⟨p, k, rs, ws, rfl, ⟨dx, o, hp, hR⟩, hW, hn, hk, hw, hwl, q⟩ := h
    refine ⟨_, (pss_cons (ps_set (i := 2) sc_Net_greatest.nd rfl (.inl rfl) (pe_call G_greatest_ways (hr.mono (by omega)) (by rfl) T.m_greatest_ways T.F_greatest_ways.kp T.b_greatest_ways .nil pass0 (pa_cons (pe_fld (pv 0) rfl) (pa_cons (pv 1) pa_nil))))
    (pss_one (ps_ret (pe_tup (pa_cons (pe_callB call_len_seq (by rfl) T.m_len (by decide +kernel) (pa_cons (pv 2) pa_nil)) (pa_cons (pe_callTy call_tuple_of (by rfl) T.m_tuple (by decide +kernel) (pa_cons (pv 2) pa_nil)) pa_nil)))))), ?_⟩
    walk_at "s"
    refine ⟨p, T.C_Net, dx, _, .ref o, rfl, hp, T.cl_Net, T.n_Net_own_nodes, (by rw [lookup_putF, if_pos rfl]), ?_⟩
    walk_at "s"
    refine ⟨o, k, rs, ws, rfl, hR, hW, hn, hk, hw, hwl, fun l H1 ways sm1 nl hl lot => ?_⟩
    obtain ⟨xs, hl1, hE⟩ := hl
    have hEl := hE.len
    walk_at "s"
    refine ⟨l, xs, rfl, .inl ⟨SqL.of hl1, fun y hy => ?_⟩⟩
    have s2 := same_new (o := .tup xs) hy
    walk_at "s"
    rename_i t ht
    have s3 := same_new (o := .tup [.int (xs.length : Int), .ref y]) ht
    refine q t y _ ways (sm1.trans (s2.trans s3)) (sm1.free (s2.free ht)) (by rw [upd_same, hEl]) ⟨xs, hp_new upd_same ht, hE.mono fun _ _ => WayV.ts (Ts.of (s2.trans s3))⟩ lot
end
end K15W
set_option Elab.async false
set_option linter.all false
set_option maxRecDepth 100000
set_option maxHeartbeats 4000000
namespace K15W
open PySem PySem.Spec PyProof.Rows L2 TL LW NT FL NF
local macro_rules | `(tactic| walk_at "ne") => `(tactic| first
  | (with_reducible assumption)
  | exact Ne.symm (by assumption)
  | (with_reducible exact ne_of_none (by assumption) (by assumption))
  | (with_reducible exact (ne_of_none (by assumption) (by assumption)).symm)
  | (apply ne_of_none; (case h' => assumption); (case h => walk_at "hp"))
  | (apply Ne.symm; apply ne_of_none; (case h' => assumption); (case h => walk_at "hp")))
local macro_rules | `(tactic| walk_at "hp") => `(tactic| first
  | (with_reducible assumption)
  | exact upd_same
  | (with_reducible exact hp_new (by assumption) (by assumption))
  | (apply hp_new; (case n => assumption); (case h => walk_at "hp"))
  | (refine (upd_ne ?ne).trans ?hp; (case ne => walk_at "ne"); (case hp => walk_at "hp")))
local macro_rules | `(tactic| walk_at "sq") => `(tactic| first
  | ((with_reducible show SqL _ _ _ _); assumption)
  | ((with_reducible show SqT _ _ _ _); assumption)
  | exact SqL.of (by assumption)
  | exact SqL.of upd_same
  | exact SqT.of (by assumption)
  | exact SqT.of upd_same
  | (apply SqL.of; walk_at "hp")
  | (apply SqT.of; walk_at "hp"))
local macro_rules | `(tactic| walk_at "len") => `(tactic| first
  | (with_reducible assumption)
  | exact sz_small (by omega)
  | exact sz_less (by omega)
  | decide
  | (refine sz_small ?_; simp only [List.length_append, List.length_cons, List.length_nil, List.length_map, str_len]; omega)
  | (refine sz_less ?_; simp only [List.length_append, List.length_cons, List.length_nil, List.length_map, str_len]; omega))
local macro_rules | `(tactic| walk_at "cond") => `(tactic| first
  | omega
  | (split <;> omega)
  | (with_reducible assumption)
  | exact .inl ⟨by omega, by omega⟩
  | exact .inr ⟨by omega, by omega⟩
  | exact ⟨by omega, by omega⟩
  | (show (0 : Int) < _; omega)
  | (show (0 : Int) < _; decide +kernel)
  | exact ⟨by omega, by omega, by decide⟩
  | walk_at "len"
  | rfl
  | (show CMulW _ _; unfold CMulW; decide +kernel)
  | exact ⟨_, rfl⟩
  | decide +kernel
  | exact ⟨_, by walk_at "sq"⟩
  | exact .inl ⟨rfl, _, by walk_at "sq"⟩)
local macro_rules | `(tactic| walk_at "at") => `(tactic| first
  | (with_reducible assumption)
  | exact atI_nat (by assumption)
  | exact atI_last _ _
  | exact atI_nat (j := 0) rfl
  | exact atI_nat (j := 1) rfl
  | exact atI_nat (j := 2) rfl
  | exact atI_nat (j := 3) rfl
  | exact atI_nat (j := 4) rfl)
local macro_rules | `(tactic| walk_at "ix") => `(tactic| first
  | (with_reducible assumption)
  | (with_reducible exact ixN_0 (by simp; done))
  | (with_reducible exact ixN_1 (by simp; done))
  | (with_reducible exact ixN_2 (by simp; done))
  | (with_reducible exact Evl.ixN_nat (by assumption))
  | (with_reducible exact Evl.ixN_nat (by omega)))
local macro_rules | `(tactic| walk_at "v") => `(tactic| first
  | exact val_var rfl
  | (with_reducible exact val_c)
  | (with_reducible apply val_orV; (case ha => walk_at "v"); (case hb => walk_at "v"))
  | (with_reducible apply val_andV; (case ha => walk_at "v"); (case hb => walk_at "v"))
  | (with_reducible apply val_notV; walk_at "v")
  | (with_reducible apply val_ifS; (case h => walk_at "w"); (case ha => walk_at "v"); (case hb => walk_at "v"))
  | (with_reducible apply val_ifI; (case h => walk_at "w"); (case ha => walk_at "v"); (case hb => walk_at "v"))
  | (with_reducible apply val_ifB; (case h => walk_at "w"); (case ha => walk_at "v"); (case hb => walk_at "v"))
  | (with_reducible apply val_eqS; (case ha => walk_at "v"); (case hb => walk_at "v"))
  | (with_reducible apply val_eqI; (case ha => walk_at "v"); (case hb => walk_at "v"))
  | (with_reducible apply val_neS; (case ha => walk_at "v"); (case hb => walk_at "v"))
  | (with_reducible apply val_neI; (case ha => walk_at "v"); (case hb => walk_at "v"))
  | (with_reducible apply val_op; (case ha => walk_at "v"); (case hb => walk_at "v"); (case hr => exact fun Q q => ⟨_, _, rfl, rfl, q⟩)))
local macro_rules | `(tactic| walk_at "w") => `(tactic| first
  | (with_reducible apply ans_or2; (case h1 => walk_at "w"); (case h2 => walk_at "w"))
  | (with_reducible apply ans_and2; (case h1 => walk_at "w"); (case h2 => walk_at "w"))
  | (with_reducible apply ans_not; walk_at "w")
  | (with_reducible apply ans_test; walk_at "v")
  | (with_reducible apply ans_val; walk_at "v"))
local macro_rules | `(tactic| walk_at "s2") => `(tactic| first
  | refine ⟨_, rfl, ?_⟩
  | refine ⟨_, _, rfl, rfl, ?_⟩
  | (refine And.intro ?cc ?_; (case cc => walk_at "cond"))
  | refine ⟨_, _, _, _, rfl, rfl, by walk_at "sq", by walk_at "at", ?_⟩
  | refine ⟨_, _, _, _, rfl, rfl, by walk_at "hp", by walk_at "ix", ?_⟩
  | refine ⟨_, _, _, _, rfl, rfl, by walk_at "hp", by walk_at "hp", by walk_at "len", ?_⟩
  | refine ⟨_, _, _, rfl, rfl, by walk_at "len", by walk_at "at", ?_⟩
  | refine ⟨_, _, _, rfl, rfl, by walk_at "hp", by walk_at "len", ?_⟩
  | refine ⟨_, _, _, rfl, rfl, by walk_at "hp", by walk_at "at", ?_⟩
  | refine ⟨_, _, rfl, rfl, by walk_at "sq", ?_⟩
  | refine ⟨_, _, rfl, rfl, by walk_at "len", ?_⟩
  | refine ⟨_, _, rfl, by walk_at "sq", ?_⟩
  | refine ⟨_, _, rfl, .inl (by walk_at "sq"), ?_⟩
  | refine ⟨_, _, rfl, .inr (by walk_at "sq"), ?_⟩
  | refine ⟨_, _, rfl, by walk_at "sq", rfl, ?_⟩
  | refine ⟨_, fun _ _ h => h, ?_⟩
  | refine .inl ⟨_, rfl, ?_⟩
  | refine ⟨_, _, .type "int", .type _, true, rfl, ClsV.ty _, .base (.int _), kit_ty (by decide +kernel), ?_⟩
  | refine ⟨_, _, .type "int", .type _, false, rfl, ClsV.ty _, .base (.int _), kit_ty (by decide +kernel), ?_⟩
  | refine ⟨_, _, .type "bool", .type _, true, rfl, ClsV.ty _, .base (.bl _), kit_ty (by decide +kernel), ?_⟩
  | refine ⟨_, _, .type "bool", .type _, false, rfl, ClsV.ty _, .base (.bl _), kit_ty (by decide +kernel), ?_⟩
  | refine ⟨_, _, .type "str", .type _, true, rfl, ClsV.ty _, .base (.str _), kit_ty (by decide +kernel), ?_⟩
  | refine ⟨_, _, .type "str", .type _, false, rfl, ClsV.ty _, .base (.str _), kit_ty (by decide +kernel), ?_⟩
  | refine ⟨_, _, .type "NoneType", .type _, true, rfl, ClsV.ty _, .base (.non), kit_ty (by decide +kernel), ?_⟩
  | refine ⟨_, _, .type "NoneType", .type _, false, rfl, ClsV.ty _, .base (.non), kit_ty (by decide +kernel), ?_⟩
  | refine ⟨_, _, .type "list", .type _, true, rfl, ClsV.ty _, .base (.lst (by walk_at "hp")), kit_ty (by decide +kernel), ?_⟩
  | refine ⟨_, _, .type "list", .type _, false, rfl, ClsV.ty _, .base (.lst (by walk_at "hp")), kit_ty (by decide +kernel), ?_⟩
  | refine ⟨_, _, .type "tuple", .type _, true, rfl, ClsV.ty _, .base (.tup (by walk_at "hp")), kit_ty (by decide +kernel), ?_⟩
  | refine ⟨_, _, .type "tuple", .type _, false, rfl, ClsV.ty _, .base (.tup (by walk_at "hp")), kit_ty (by decide +kernel), ?_⟩
  | fail)
local macro_rules | `(tactic| walk_at "s1") => `(tactic| first
  | (with_reducible refine go_gcons ?_)
  | (with_reducible refine go_gnil ?_)
  | (with_reducible refine go_seqM ?_)
  | (with_reducible refine go_nextM ?_)
  | (with_reducible refine go_contM ?_)
  | (with_reducible refine go_brkM ?_)
  | (with_reducible refine go_retM ?_)
  | (with_reducible refine go_asgM ?_)
  | (with_reducible refine go_test ?_)
  | (with_reducible refine go_rI0 ?_)
  | (with_reducible refine go_op ?_)
  | (with_reducible refine go_var rfl ?_)
  | ((with_reducible show tFor (iRng1 _) _ _ _ _ _); refine (show iRng1 _ _ _ _ from ?_))
  | (with_reducible refine go_rng1 ?_)
  | (with_reducible refine go_c ?_)
  | (with_reducible apply go_pick; (case hs => walk_at "hp"); (case h0 => walk_at "cond"); (case h1 => walk_at "cond"); (case' q => intro k a b c h0 h1))
  | (with_reducible refine go_nil ?_)
  | (with_reducible refine go_cons ?_)
  | (with_reducible refine go_call ?_)
  | (with_reducible refine go_cb ?_)
  | (with_reducible refine go_next ?_)
  | (with_reducible refine go_cont ?_)
  | (with_reducible refine go_ret ?_)
  | (with_reducible refine go_name ?_)
  | (with_reducible refine go_seq ?_)
  | (with_reducible refine go_asg ?_)
  | (with_reducible apply go_or; (case h => walk_at "v"))
  | (with_reducible apply go_and; (case h => walk_at "v"))
  | (with_reducible apply go_andL; (case h => walk_at "v"); (case' h1 => intro e); (case' h2 => intro e))
  | (with_reducible apply go_orL; (case h => walk_at "v"); (case' h1 => intro e); (case' h2 => intro e))
  | (with_reducible apply go_ifE; (case h => walk_at "v"))
  | (with_reducible apply go_ifOr; (case h => walk_at "w"); (case' h1 => intro e); (case' h2 => intro e))
  | (with_reducible apply go_ifAnd; (case h => walk_at "w"); (case' h1 => intro e); (case' h2 => intro e))
  | (with_reducible refine go_min ?_)
  | (with_reducible refine iteT ?_)
  | (with_reducible refine iteF ?_)
  | (with_reducible refine iteD (fun _ => ?_) (fun e => absurd rfl e))
  | (with_reducible refine iteS (fun e => ?_) (fun e => ?_))
  | (with_reducible refine iteI (fun e => ?_) (fun e => ?_))
  | (with_reducible refine iteSn (fun e => ?_) (fun e => ?_))
  | (with_reducible refine iteIn (fun e => ?_) (fun e => ?_))
  | (with_reducible refine iteD (fun e => ?_) (fun e => ?_))
  | (with_reducible refine iteDn (fun e => ?_) (fun e => ?_))
  | (with_reducible refine ite2 (fun e => ?_) (fun e => ?_))
  | (refine fun (p : Addr) (hp : _ = none) => ?_)
  | ((conv => whnf); walk_at "s2")
  | fail)
local macro_rules | `(tactic| walk_at "s") => `(tactic| repeat' (first
  | (with_reducible refine go_gcons ?_)
  | (with_reducible refine go_gnil ?_)
  | (with_reducible refine go_seqM ?_)
  | (with_reducible refine go_nextM ?_)
  | (with_reducible refine go_contM ?_)
  | (with_reducible refine go_brkM ?_)
  | (with_reducible refine go_retM ?_)
  | (with_reducible refine go_asgM ?_)
  | (with_reducible refine go_test ?_)
  | (with_reducible refine go_rI0 ?_)
  | (with_reducible refine go_op ?_)
  | (with_reducible refine go_var rfl ?_)
  | ((with_reducible show tFor (iRng1 _) _ _ _ _ _); refine (show iRng1 _ _ _ _ from ?_))
  | (with_reducible refine go_rng1 ?_)
  | (with_reducible refine go_c ?_)
  | (with_reducible apply go_pick; (case hs => walk_at "hp"); (case h0 => walk_at "cond"); (case h1 => walk_at "cond"); (case' q => intro k a b c h0 h1))
  | (with_reducible refine go_nil ?_)
  | (with_reducible refine go_cons ?_)
  | (with_reducible refine go_call ?_)
  | (with_reducible refine go_cb ?_)
  | (with_reducible refine go_next ?_)
  | (with_reducible refine go_cont ?_)
  | (with_reducible refine go_ret ?_)
  | (with_reducible refine go_name ?_)
  | (with_reducible refine go_seq ?_)
  | (with_reducible refine go_asg ?_)
  | (with_reducible apply go_or; (case h => walk_at "v"))
  | (with_reducible apply go_and; (case h => walk_at "v"))
  | (with_reducible apply go_andL; (case h => walk_at "v"); (case' h1 => intro e); (case' h2 => intro e))
  | (with_reducible apply go_orL; (case h => walk_at "v"); (case' h1 => intro e); (case' h2 => intro e))
  | (with_reducible apply go_ifE; (case h => walk_at "v"))
  | (with_reducible apply go_ifOr; (case h => walk_at "w"); (case' h1 => intro e); (case' h2 => intro e))
  | (with_reducible apply go_ifAnd; (case h => walk_at "w"); (case' h1 => intro e); (case' h2 => intro e))
  | (with_reducible refine go_min ?_)
  | (with_reducible refine iteT ?_)
  | (with_reducible refine iteF ?_)
  | (with_reducible refine iteD (fun _ => ?_) (fun e => absurd rfl e))
  | (with_reducible refine iteS (fun e => ?_) (fun e => ?_))
  | (with_reducible refine iteI (fun e => ?_) (fun e => ?_))
  | (with_reducible refine iteSn (fun e => ?_) (fun e => ?_))
  | (with_reducible refine iteIn (fun e => ?_) (fun e => ?_))
  | (with_reducible refine iteD (fun e => ?_) (fun e => ?_))
  | (with_reducible refine iteDn (fun e => ?_) (fun e => ?_))
  | (with_reducible refine ite2 (fun e => ?_) (fun e => ?_))
  | (refine fun (p : Addr) (hp : _ = none) => ?_)
  | ((conv => whnf); walk_at "s2")
  | fail))

section
variable {P : Program} {w : World} {K : PySem.W.Frag} {mg : Str → Option Value} {base : Heap}
/-! ### goals -/
def spGoals : Sp := fun vs H Q _ => ∃ (s r : Addr) (rs : List Rw), vs = [.ref s, .ref r, .int 3] ∧ Src H s ∧ RowsT H r rs ∧ s ≠ r ∧ 0 < rs.length ∧ rs.length ≤ 20 ∧
  ∀ (l : Addr) (H' : Hp) (gs : List Int), But s H H' → H l = none → Src H' s → Ints H' l gs → gs.length ≤ 3 → InR rs gs → Q (.ref l) H'
theorem ok_goals (T : Top w K mg) : FnOk P w K mg base CX0 2 T.a_law_c_goals T.d_law_c_goals ["source", "rows", "most"] spGoals := by
  have G_law_pick := ok_pick (P := P) (w := w) (base := base) T
  refine T.F_law_c_goals.ok sc_law_c_goals (fun vs H Q E h => ?_) (fun cdv A outer s H vs Q E hr h => ?_)
  · obtain ⟨s, r, rs, rfl, _⟩ := h
    rfl
  · obtain ⟨s, r, rs, rfl, ⟨a, b, c, hs⟩, ⟨xs, hX, hE⟩, nsr, l0, l1, q⟩ := h
    have hXl := hE.len
    have nrs := nsr.symm
    refine ⟨_, (pss_cons (ps_set (i := 3) sc_law_c_goals.nd rfl (.inl rfl) (pe_lst pa_nil))
    (pss_cons (ps_for PassesOwn.never rfl (pi_range1 rfl T.m_range (pa_cons (pe_ix ix_list (pe_lst (pa_cons (pe_op op_add pe_int (pe_call G_law_pick (hr.mono (by omega)) (by rfl) T.m_law_pick T.F_law_pick.kp T.b_law_pick .nil pass0 (pa_cons (pv 0) (pa_cons (pv 2) pa_nil)))) (pa_cons (pe_call G_law_pick (hr.mono (by omega)) (by rfl) T.m_law_pick T.F_law_pick.kp T.b_law_pick .nil pass0 (pa_cons (pv 0) (pa_cons (pe_op op_add (pv 2) pe_int) pa_nil))) pa_nil))) (pe_callTy call_int1 (by rfl) T.m_int (by decide +kernel) (pa_cons (pe_cmpR op_eq (pe_call G_law_pick (hr.mono (by omega)) (by rfl) T.m_law_pick T.F_law_pick.kp T.b_law_pick .nil pass0 (pa_cons (pv 0) (pa_cons pe_int pa_nil))) pe_int (nomark _)) pa_nil)) (fun _ _ => rfl)) pa_nil)) (pg_name (i := 4) sc_law_c_goals.nd rfl (.inl rfl))
    (pss_cons (ps_set (i := 5) sc_law_c_goals.nd rfl (.inl rfl) (pe_call G_law_pick (hr.mono (by omega)) (by rfl) T.m_law_pick T.F_law_pick.kp T.b_law_pick .nil pass0 (pa_cons (pv 0) (pa_cons (pe_callB call_len_seq (by rfl) T.m_len (by decide +kernel) (pa_cons (pv 1) pa_nil)) pa_nil))))
    (pss_one (ps_expr (pe_bm PySem.F.plainAttrs_list PySem.F.slot_list_append PySem.F.type_list_append mt_append (pv 3) (pa_cons (pe_ifExp (pt_cmpR op_eq (pe_call G_law_pick (hr.mono (by omega)) (by rfl) T.m_law_pick T.F_law_pick.kp T.b_law_pick .nil pass0 (pa_cons (pv 0) (pa_cons pe_int pa_nil))) pe_int (nomark _)) (pv 5) (pe_op op_sub (pe_op op_sub (pe_callB call_len_seq (by rfl) T.m_len (by decide +kernel) (pa_cons (pv 1) pa_nil)) pe_int) (pe_call G_law_pick (hr.mono (by omega)) (by rfl) T.m_law_pick T.F_law_pick.kp T.b_law_pick .nil pass0 (pa_cons (pv 0) (pa_cons (pe_callB (call_min2 rfl) (by rfl) T.m_min (by decide +kernel) (pa_cons (pe_callB call_len_seq (by rfl) T.m_len (by decide +kernel) (pa_cons (pv 1) pa_nil)) (pa_cons pe_int pa_nil))) pa_nil))))) pa_nil))))))
    (pss_one (ps_ret (pv 3))))), ?_⟩
    walk_at "s"
    rename_i L hL k1 a1 b1 c1 k10 k11 k2 a2 b2 c2 k20 k21 O hO k3 a3 b3 c3 k30 k31
    have nsL : s ≠ L := ne_of_none hs hL
    have nLO : L ≠ O := ne_of_none (by walk_at "hp") hO
    have nsO : s ≠ O := ne_of_none upd_same hO
    have nrL : r ≠ L := ne_of_none hX hL
    have nrO : r ≠ O := ne_of_none (by walk_at "hp") hO
    refine .inr ⟨_, rfl, ?_⟩
    obtain ⟨n, hn0, hn1, hat⟩ : ∃ n : Int, 0 ≤ n ∧ n ≤ 3 ∧ atI [V.int (1 + k1), V.int k2] (if decide (V.int k3 = V.int 0) = true then 1 else 0) = some (.int n) := by
      by_cases e : decide (V.int k3 = V.int 0) = true
      · rw [if_pos e]
        exact ⟨k2, by omega, by omega, atI_nat (j := 1) rfl⟩
      · rw [if_neg e]
        exact ⟨1 + k1, by omega, by omega, atI_nat (j := 0) rfl⟩
    refine ⟨_, _, _, _, rfl, rfl, SqL.of ((upd_ne nsO.symm).trans upd_same), hat, ?_⟩
    walk_at "s"
    refine for_range (lo := 0) (n := n.toNat) (fun i σ H2 => ∃ (v4 v5 : Option V) (a b c : Int) (gs : List Int), σ = [some (.ref s), some (.ref r), some (.int 3), some (.ref L), v4, v5] ∧ But s H H2 ∧ H2 s = some (.lst [.int a, .int b, .int c]) ∧ H2 L = some (.lst (gs.map V.int)) ∧ gs.length = i ∧ InR rs gs) ?_ ?_ ?_
    · exact ⟨_, _, a3, b3, c3, [], rfl, ((((But.of (same_new hL)).trans But.upd).trans But.upd).trans' (same_new hO)).trans But.upd, upd_same, by walk_at "hp", rfl, fun x hx => by cases hx⟩
    · intro i σ H2 hi hP
      obtain ⟨v4, v5, a, b, c, gs, rfl, but, h1, h2, h3, h4⟩ := hP
      have hX2 := but _ _ nrs hX
      have hgl : (gs.map V.int).length ≤ 10 := by
        rw [List.length_map]
        omega
      walk_at "s"
      · rename_i k1 a1 b1 c1 k10 k11 k2 a2 b2 c2 k20 k21 e
        refine ⟨_, _, _, _, _, gs ++ [k1], rfl, but_mut ((but.trans But.upd).trans But.upd) hL, by walk_at "hp", ?_, by simp [h3], fun x hx => ?_⟩
        · rw [upd_same, List.map_append]
          rfl
        · rcases List.mem_append.mp hx with hx | hx
          · exact h4 x hx
          · rw [List.mem_singleton] at hx
            rw [hx]
            omega
      · rename_i k1 a1 b1 c1 k10 k11 k2 a2 b2 c2 k20 k21 e
        refine ⟨(xs.length : Int), 3, rfl, ?_⟩
        obtain ⟨mn, hmn, m0, m1, m2⟩ : ∃ mn : Int, (if (3 : Int) < (xs.length : Int) then (3 : Int) else (xs.length : Int)) = mn ∧ 0 < mn ∧ mn ≤ 3 ∧ mn ≤ xs.length := ⟨_, rfl, by split <;> omega, by split <;> omega, by split <;> omega⟩
        rw [hmn]
        walk_at "s"
        rename_i k3 a3 b3 c3 k30 k31
        refine ⟨_, _, _, _, _, gs ++ [(xs.length : Int) - 1 - k3], rfl, but_mut (((but.trans But.upd).trans But.upd).trans But.upd) hL, by walk_at "hp", ?_, by simp [h3], fun x hx => ?_⟩
        · rw [upd_same, List.map_append]
          rfl
        · rcases List.mem_append.mp hx with hx | hx
          · exact h4 x hx
          · rw [List.mem_singleton] at hx
            rw [hx]
            omega
    · intro σ H2 hP
      obtain ⟨v4, v5, a, b, c, gs, rfl, but, h1, h2, h3, h4⟩ := hP
      walk_at "s"
      exact q L H2 gs but hL ⟨a, b, c, h1⟩ h2 (by omega) h4
/-! ### the weight of nodes -/
def wgt (rs : List Rw) (ks : List Int) : Int := (ks.map fun x => szN rs x.toNat).sum
def spWeight : Sp := fun vs H Q _ => ∃ (a k : Addr) (rs : List Rw) (ks : List Int), vs = [.ref a, .ref k] ∧ RowsT H a rs ∧ Ints H k ks ∧ (∀ x ∈ ks, 0 ≤ x ∧ x < (rs.length : Int)) ∧ ks.length ≤ 20 ∧ WF rs ∧
  ∀ (H' : Hp), Same H H' → Q (.int (wgt rs ks)) H'
theorem ok_weight (T : Top w K mg) : FnOk P w K mg base CX0 1 T.a_law_c_weight T.d_law_c_weight ["rows", "nodes"] spWeight := by
  refine T.F_law_c_weight.ok sc_law_c_weight (fun vs H Q E h => ?_) (fun cdv A outer s H vs Q E hr h => ?_)
  · obtain ⟨a, k, rs, ks, rfl, _⟩ := h
    rfl
  · obtain ⟨a, k, rs, ks, rfl, ⟨xs, hX, hE⟩, hk, hin, hkl, hW, q⟩ := h
    have hXl := hE.len
    refine ⟨_, (pss_one (ps_ret (pe_callB (cr_sum rfl) (by rfl) T.m_sum (by decide +kernel) (pa_cons (pe_lc (own := [("node", 2)]) rfl sc_law_c_weight.nd (pi_list (pv 1)) (blkOk_by (own := [("node", 2)]) (N := ["rows", "nodes", "node"]) (sc := defScope s_law_c_weight) (by decide +kernel)) (fun _ _ _ _ _ => (pg_name (i := 2) sc_law_c_weight.nd rfl (.inl rfl))) (fun _ _ _ _ _ => pts_nil) (fun _ _ _ _ _ => (pe_ix (ix_tupB (K := K) rfl) (pe_ix (ix_listB (K := K) rfl) (pv 0) (pv 2) (fun _ _ => rfl)) pe_int (fun _ _ => rfl)))) pa_nil)))), ?_⟩
    walk_at "s"
    rename_i D hD
    refine lc_list (xs := ks.map V.int) (fun j H3 => Same H H3 ∧ H3 D = some (.lst (((ks.take j).map fun x => szN rs x.toNat).map V.int))) ?_ ?_ ?_ ?_
    · exact ⟨same_new hD, upd_same⟩
    · intro j H3 hj hP
      exact SqL.of (hP.1 _ _ hk)
    · intro j x H3 hj hP
      obtain ⟨sm, b1⟩ := hP
      obtain ⟨z, rfl, hz⟩ := map_get hj
      obtain ⟨z0, z1⟩ := hin z (List.mem_of_getElem? hz)
      have hjl := (List.getElem?_eq_some_iff.mp hz).1
      have hzl : z.toNat < rs.length := by omega
      have er : rs[z.toNat]? = some rs[z.toNat] := List.getElem?_eq_getElem hzl
      obtain ⟨u, eu, t, o, rfl, ht, ho⟩ := hE.get er
      have hX2 := sm _ _ hX
      have ht2 := sm _ _ ht
      have hat : atI xs z = some (.ref t) := by
        rw [show z = ((z.toNat : Nat) : Int) from by omega]
        exact atI_nat eu
      walk_at "s"
      refine ⟨_, b1, sz_less (by rw [List.length_map, List.length_map, List.length_take]; omega), same_mut sm hD, ?_⟩
      rw [upd_same, take_snoc hz, List.map_append, List.map_append]
      have e : szN rs z.toNat = rs[z.toNat].sz := by
        unfold szN
        rw [er]
      show _ = some (HO.lst (_ ++ [V.int (szN rs z.toNat)]))
      rw [e]
    · intro H3 hP
      obtain ⟨sm, b1⟩ := hP
      rw [List.length_map, List.take_length] at b1
      walk_at "s"
      exact q H3 sm

end
end K15W
set_option Elab.async false
set_option linter.all false
set_option maxRecDepth 100000
set_option maxHeartbeats 4000000
namespace K15W
open PySem PySem.Spec PyProof.Rows L2 TL LW NT FL NF
local macro_rules | `(tactic| walk_at "ne") => `(tactic| first
  | (with_reducible assumption)
  | exact Ne.symm (by assumption)
  | (with_reducible exact ne_of_none (by assumption) (by assumption))
  | (with_reducible exact (ne_of_none (by assumption) (by assumption)).symm)
  | (apply ne_of_none; (case h' => assumption); (case h => walk_at "hp"))
  | (apply Ne.symm; apply ne_of_none; (case h' => assumption); (case h => walk_at "hp")))
local macro_rules | `(tactic| walk_at "hp") => `(tactic| first
  | (with_reducible assumption)
  | exact upd_same
  | (with_reducible exact hp_new (by assumption) (by assumption))
  | (apply hp_new; (case n => assumption); (case h => walk_at "hp"))
  | (refine (upd_ne ?ne).trans ?hp; (case ne => walk_at "ne"); (case hp => walk_at "hp")))
local macro_rules | `(tactic| walk_at "sq") => `(tactic| first
  | ((with_reducible show SqL _ _ _ _); assumption)
  | ((with_reducible show SqT _ _ _ _); assumption)
  | exact SqL.of (by assumption)
  | exact SqL.of upd_same
  | exact SqT.of (by assumption)
  | exact SqT.of upd_same
  | (apply SqL.of; walk_at "hp")
  | (apply SqT.of; walk_at "hp"))
local macro_rules | `(tactic| walk_at "len") => `(tactic| first
  | (with_reducible assumption)
  | exact sz_small (by omega)
  | exact sz_less (by omega)
  | decide
  | (refine sz_small ?_; simp only [List.length_append, List.length_cons, List.length_nil, List.length_map, str_len]; omega)
  | (refine sz_less ?_; simp only [List.length_append, List.length_cons, List.length_nil, List.length_map, str_len]; omega))
local macro_rules | `(tactic| walk_at "cond") => `(tactic| first
  | omega
  | (split <;> omega)
  | (with_reducible assumption)
  | exact .inl ⟨by omega, by omega⟩
  | exact .inr ⟨by omega, by omega⟩
  | exact ⟨by omega, by omega⟩
  | (show (0 : Int) < _; omega)
  | (show (0 : Int) < _; decide +kernel)
  | exact ⟨by omega, by omega, by decide⟩
  | walk_at "len"
  | rfl
  | (show CMulW _ _; unfold CMulW; decide +kernel)
  | exact ⟨_, rfl⟩
  | decide +kernel
  | exact ⟨_, by walk_at "sq"⟩
  | exact .inl ⟨rfl, _, by walk_at "sq"⟩)
local macro_rules | `(tactic| walk_at "at") => `(tactic| first
  | (with_reducible assumption)
  | exact atI_nat (by assumption)
  | exact atI_last _ _
  | exact atI_nat (j := 0) rfl
  | exact atI_nat (j := 1) rfl
  | exact atI_nat (j := 2) rfl
  | exact atI_nat (j := 3) rfl
  | exact atI_nat (j := 4) rfl)
local macro_rules | `(tactic| walk_at "ix") => `(tactic| first
  | (with_reducible assumption)
  | (with_reducible exact ixN_0 (by simp; done))
  | (with_reducible exact ixN_1 (by simp; done))
  | (with_reducible exact ixN_2 (by simp; done))
  | (with_reducible exact Evl.ixN_nat (by assumption))
  | (with_reducible exact Evl.ixN_nat (by omega)))
local macro_rules | `(tactic| walk_at "v") => `(tactic| first
  | exact val_var rfl
  | (with_reducible exact val_c)
  | (with_reducible apply val_orV; (case ha => walk_at "v"); (case hb => walk_at "v"))
  | (with_reducible apply val_andV; (case ha => walk_at "v"); (case hb => walk_at "v"))
  | (with_reducible apply val_notV; walk_at "v")
  | (with_reducible apply val_ifS; (case h => walk_at "w"); (case ha => walk_at "v"); (case hb => walk_at "v"))
  | (with_reducible apply val_ifI; (case h => walk_at "w"); (case ha => walk_at "v"); (case hb => walk_at "v"))
  | (with_reducible apply val_ifB; (case h => walk_at "w"); (case ha => walk_at "v"); (case hb => walk_at "v"))
  | (with_reducible apply val_eqS; (case ha => walk_at "v"); (case hb => walk_at "v"))
  | (with_reducible apply val_eqI; (case ha => walk_at "v"); (case hb => walk_at "v"))
  | (with_reducible apply val_neS; (case ha => walk_at "v"); (case hb => walk_at "v"))
  | (with_reducible apply val_neI; (case ha => walk_at "v"); (case hb => walk_at "v"))
  | (with_reducible apply val_op; (case ha => walk_at "v"); (case hb => walk_at "v"); (case hr => exact fun Q q => ⟨_, _, rfl, rfl, q⟩)))
local macro_rules | `(tactic| walk_at "w") => `(tactic| first
  | (with_reducible apply ans_or2; (case h1 => walk_at "w"); (case h2 => walk_at "w"))
  | (with_reducible apply ans_and2; (case h1 => walk_at "w"); (case h2 => walk_at "w"))
  | (with_reducible apply ans_not; walk_at "w")
  | (with_reducible apply ans_test; walk_at "v")
  | (with_reducible apply ans_val; walk_at "v"))
local macro_rules | `(tactic| walk_at "s2") => `(tactic| first
  | refine ⟨_, rfl, ?_⟩
  | refine ⟨_, _, rfl, rfl, ?_⟩
  | (refine And.intro ?cc ?_; (case cc => walk_at "cond"))
  | refine ⟨_, _, _, _, rfl, rfl, by walk_at "sq", by walk_at "at", ?_⟩
  | refine ⟨_, _, _, _, rfl, rfl, by walk_at "hp", by walk_at "ix", ?_⟩
  | refine ⟨_, _, _, _, rfl, rfl, by walk_at "hp", by walk_at "hp", by walk_at "len", ?_⟩
  | refine ⟨_, _, _, rfl, rfl, by walk_at "len", by walk_at "at", ?_⟩
  | refine ⟨_, _, _, rfl, rfl, by walk_at "hp", by walk_at "len", ?_⟩
  | refine ⟨_, _, _, rfl, rfl, by walk_at "hp", by walk_at "at", ?_⟩
  | refine ⟨_, _, rfl, rfl, by walk_at "sq", ?_⟩
  | refine ⟨_, _, rfl, rfl, by walk_at "len", ?_⟩
  | refine ⟨_, _, rfl, by walk_at "sq", ?_⟩
  | refine ⟨_, _, rfl, .inl (by walk_at "sq"), ?_⟩
  | refine ⟨_, _, rfl, .inr (by walk_at "sq"), ?_⟩
  | refine ⟨_, _, rfl, by walk_at "sq", rfl, ?_⟩
  | refine ⟨_, fun _ _ h => h, ?_⟩
  | refine .inl ⟨_, rfl, ?_⟩
  | refine ⟨_, _, .type "int", .type _, true, rfl, ClsV.ty _, .base (.int _), kit_ty (by decide +kernel), ?_⟩
  | refine ⟨_, _, .type "int", .type _, false, rfl, ClsV.ty _, .base (.int _), kit_ty (by decide +kernel), ?_⟩
  | refine ⟨_, _, .type "bool", .type _, true, rfl, ClsV.ty _, .base (.bl _), kit_ty (by decide +kernel), ?_⟩
  | refine ⟨_, _, .type "bool", .type _, false, rfl, ClsV.ty _, .base (.bl _), kit_ty (by decide +kernel), ?_⟩
  | refine ⟨_, _, .type "str", .type _, true, rfl, ClsV.ty _, .base (.str _), kit_ty (by decide +kernel), ?_⟩
  | refine ⟨_, _, .type "str", .type _, false, rfl, ClsV.ty _, .base (.str _), kit_ty (by decide +kernel), ?_⟩
  | refine ⟨_, _, .type "NoneType", .type _, true, rfl, ClsV.ty _, .base (.non), kit_ty (by decide +kernel), ?_⟩
  | refine ⟨_, _, .type "NoneType", .type _, false, rfl, ClsV.ty _, .base (.non), kit_ty (by decide +kernel), ?_⟩
  | refine ⟨_, _, .type "list", .type _, true, rfl, ClsV.ty _, .base (.lst (by walk_at "hp")), kit_ty (by decide +kernel), ?_⟩
  | refine ⟨_, _, .type "list", .type _, false, rfl, ClsV.ty _, .base (.lst (by walk_at "hp")), kit_ty (by decide +kernel), ?_⟩
  | refine ⟨_, _, .type "tuple", .type _, true, rfl, ClsV.ty _, .base (.tup (by walk_at "hp")), kit_ty (by decide +kernel), ?_⟩
  | refine ⟨_, _, .type "tuple", .type _, false, rfl, ClsV.ty _, .base (.tup (by walk_at "hp")), kit_ty (by decide +kernel), ?_⟩
  | fail)
local macro_rules | `(tactic| walk_at "s1") => `(tactic| first
  | (with_reducible refine go_gcons ?_)
  | (with_reducible refine go_gnil ?_)
  | (with_reducible refine go_seqM ?_)
  | (with_reducible refine go_nextM ?_)
  | (with_reducible refine go_contM ?_)
  | (with_reducible refine go_brkM ?_)
  | (with_reducible refine go_retM ?_)
  | (with_reducible refine go_asgM ?_)
  | (with_reducible refine go_test ?_)
  | (with_reducible refine go_rI0 ?_)
  | (with_reducible refine go_op ?_)
  | (with_reducible refine go_var rfl ?_)
  | ((with_reducible show tFor (iRng1 _) _ _ _ _ _); refine (show iRng1 _ _ _ _ from ?_))
  | (with_reducible refine go_rng1 ?_)
  | (with_reducible refine go_c ?_)
  | (with_reducible apply go_pick; (case hs => walk_at "hp"); (case h0 => walk_at "cond"); (case h1 => walk_at "cond"); (case' q => intro k a b c h0 h1))
  | (with_reducible refine go_nil ?_)
  | (with_reducible refine go_cons ?_)
  | (with_reducible refine go_call ?_)
  | (with_reducible refine go_cb ?_)
  | (with_reducible refine go_next ?_)
  | (with_reducible refine go_cont ?_)
  | (with_reducible refine go_ret ?_)
  | (with_reducible refine go_name ?_)
  | (with_reducible refine go_seq ?_)
  | (with_reducible refine go_asg ?_)
  | (with_reducible apply go_or; (case h => walk_at "v"))
  | (with_reducible apply go_and; (case h => walk_at "v"))
  | (with_reducible apply go_andL; (case h => walk_at "v"); (case' h1 => intro e); (case' h2 => intro e))
  | (with_reducible apply go_orL; (case h => walk_at "v"); (case' h1 => intro e); (case' h2 => intro e))
  | (with_reducible apply go_ifE; (case h => walk_at "v"))
  | (with_reducible apply go_ifOr; (case h => walk_at "w"); (case' h1 => intro e); (case' h2 => intro e))
  | (with_reducible apply go_ifAnd; (case h => walk_at "w"); (case' h1 => intro e); (case' h2 => intro e))
  | (with_reducible refine go_min ?_)
  | (with_reducible refine iteT ?_)
  | (with_reducible refine iteF ?_)
  | (with_reducible refine iteD (fun _ => ?_) (fun e => absurd rfl e))
  | (with_reducible refine iteS (fun e => ?_) (fun e => ?_))
  | (with_reducible refine iteI (fun e => ?_) (fun e => ?_))
  | (with_reducible refine iteSn (fun e => ?_) (fun e => ?_))
  | (with_reducible refine iteIn (fun e => ?_) (fun e => ?_))
  | (with_reducible refine iteD (fun e => ?_) (fun e => ?_))
  | (with_reducible refine iteDn (fun e => ?_) (fun e => ?_))
  | (with_reducible refine ite2 (fun e => ?_) (fun e => ?_))
  | (refine fun (p : Addr) (hp : _ = none) => ?_)
  | ((conv => whnf); walk_at "s2")
  | fail)
local macro_rules | `(tactic| walk_at "s") => `(tactic| repeat' (first
  | (with_reducible refine go_gcons ?_)
  | (with_reducible refine go_gnil ?_)
  | (with_reducible refine go_seqM ?_)
  | (with_reducible refine go_nextM ?_)
  | (with_reducible refine go_contM ?_)
  | (with_reducible refine go_brkM ?_)
  | (with_reducible refine go_retM ?_)
  | (with_reducible refine go_asgM ?_)
  | (with_reducible refine go_test ?_)
  | (with_reducible refine go_rI0 ?_)
  | (with_reducible refine go_op ?_)
  | (with_reducible refine go_var rfl ?_)
  | ((with_reducible show tFor (iRng1 _) _ _ _ _ _); refine (show iRng1 _ _ _ _ from ?_))
  | (with_reducible refine go_rng1 ?_)
  | (with_reducible refine go_c ?_)
  | (with_reducible apply go_pick; (case hs => walk_at "hp"); (case h0 => walk_at "cond"); (case h1 => walk_at "cond"); (case' q => intro k a b c h0 h1))
  | (with_reducible refine go_nil ?_)
  | (with_reducible refine go_cons ?_)
  | (with_reducible refine go_call ?_)
  | (with_reducible refine go_cb ?_)
  | (with_reducible refine go_next ?_)
  | (with_reducible refine go_cont ?_)
  | (with_reducible refine go_ret ?_)
  | (with_reducible refine go_name ?_)
  | (with_reducible refine go_seq ?_)
  | (with_reducible refine go_asg ?_)
  | (with_reducible apply go_or; (case h => walk_at "v"))
  | (with_reducible apply go_and; (case h => walk_at "v"))
  | (with_reducible apply go_andL; (case h => walk_at "v"); (case' h1 => intro e); (case' h2 => intro e))
  | (with_reducible apply go_orL; (case h => walk_at "v"); (case' h1 => intro e); (case' h2 => intro e))
  | (with_reducible apply go_ifE; (case h => walk_at "v"))
  | (with_reducible apply go_ifOr; (case h => walk_at "w"); (case' h1 => intro e); (case' h2 => intro e))
  | (with_reducible apply go_ifAnd; (case h => walk_at "w"); (case' h1 => intro e); (case' h2 => intro e))
  | (with_reducible refine go_min ?_)
  | (with_reducible refine iteT ?_)
  | (with_reducible refine iteF ?_)
  | (with_reducible refine iteD (fun _ => ?_) (fun e => absurd rfl e))
  | (with_reducible refine iteS (fun e => ?_) (fun e => ?_))
  | (with_reducible refine iteI (fun e => ?_) (fun e => ?_))
  | (with_reducible refine iteSn (fun e => ?_) (fun e => ?_))
  | (with_reducible refine iteIn (fun e => ?_) (fun e => ?_))
  | (with_reducible refine iteD (fun e => ?_) (fun e => ?_))
  | (with_reducible refine iteDn (fun e => ?_) (fun e => ?_))
  | (with_reducible refine ite2 (fun e => ?_) (fun e => ?_))
  | (refine fun (p : Addr) (hp : _ = none) => ?_)
  | ((conv => whnf); walk_at "s2")
  | fail))

section
variable {P : Program} {w : World} {K : PySem.W.Frag} {mg : Str → Option Value} {base : Heap}
/-! ### the law's own living nodes -/
theorem wst_list {rs : List Rw} {ws : List Int} (h : InR rs ws) : wst rs ws = (List.range rs.length).map fun (n : Nat) => decide ((n : Int) ∈ ws) := by
  refine List.ext_getElem (by rw [wst_len, List.length_map, List.length_range]) fun i h1 h2 => ?_
  rw [wst_len] at h1
  rw [List.getElem_map, List.getElem_range, ← wst_flag h (Int.natCast_nonneg i)]
  unfold flag
  rw [Int.toNat_natCast, List.getD_eq_getElem?_getD, List.getElem?_eq_getElem (by rw [wst_len]; exact h1)]
  rfl
def livL (rs : List Rw) (ws : List Int) : List Int := (lives rs ws).map fun (n : Nat) => (n : Int)
def spLiving : Sp := fun vs H Q _ => ∃ (a k : Addr) (rs : List Rw) (ks : List Int), vs = [.ref a, .ref k] ∧ RowsT H a rs ∧ WF rs ∧ rs.length ≤ 20 ∧ Ints H k ks ∧ InR rs ks ∧
  ∀ (l : Addr) (H' : Hp), Same H H' → H l = none → Ints H' l (livL rs ks) → Q (.ref l) H'
theorem ok_living (T : Top w K mg) : FnOk P w K mg base CX0 2 T.a_law_c_living T.d_law_c_living ["rows", "wanted"] spLiving := by
  have G_law_c_made := ok_cmade (P := P) (w := w) (base := base) T
  refine T.F_law_c_living.ok sc_law_c_living (fun vs H Q E h => ?_) (fun cdv A outer s H vs Q E hr h => ?_)
  · obtain ⟨a, k, rs, ks, rfl, _⟩ := h
    rfl
  · obtain ⟨a, k, rs, ks, rfl, hR, hW, hn, hk, hin, q⟩ := h
    obtain ⟨xs, hX, hE⟩ := id hR
    have hXl := hE.len
    refine ⟨_, (pss_cons (ps_set (i := 3) sc_law_c_living.nd rfl (.inr rfl) (pe_lc (own := [("node", 2)]) rfl sc_law_c_living.nd (pi_range1 rfl T.m_range (pa_cons (pe_callB call_len_seq (by rfl) T.m_len (by decide +kernel) (pa_cons (pv 0) pa_nil)) pa_nil)) (blkOk_by (own := [("node", 2)]) (N := ["rows", "wanted", "node", "above", "turn", "operand", "bare"]) (sc := defScope s_law_c_living) (by decide +kernel)) (fun _ _ _ _ _ => (pg_name (i := 2) sc_law_c_living.nd rfl (.inl rfl))) (fun _ _ _ _ _ => pts_nil) (fun _ _ _ _ _ => (pe_cmpR (op_inB (K := K) rfl) (pv 2) (pv 1) (by rfl)))))
    (pss_cons (ps_for PassesOwn.never rfl (pi_range1 rfl T.m_range (pa_cons (pe_callB call_len_seq (by rfl) T.m_len (by decide +kernel) (pa_cons (pv 0) pa_nil)) pa_nil)) (pg_name (i := 4) sc_law_c_living.nd rfl (.inl rfl))
    (pss_cons (ps_set (i := 2) sc_law_c_living.nd rfl (.inl rfl) (pe_op op_sub (pe_op op_sub (pe_callB call_len_seq (by rfl) T.m_len (by decide +kernel) (pa_cons (pv 0) pa_nil)) pe_int) (pv 4)))
    (pss_one (ps_if (pt_val (pe_ix ix_list (pv 3) (pv 2) (fun _ _ => rfl)))
    (pss_one (ps_for PassesOwn.never rfl (pi_tup (pe_ix ix_tup (pe_ix ix_list (pv 0) (pv 2) (fun _ _ => rfl)) pe_int (fun _ _ => rfl))) (pg_name (i := 5) sc_law_c_living.nd rfl (.inl rfl))
    (pss_one (ps_asg pe_bl (pg_sub (pv 3) (pv 5) set_list)))))
    pss_nil))))
    (pss_cons (ps_set (i := 6) sc_law_c_living.nd rfl (.inr rfl) (pe_call G_law_c_made (hr.mono (by omega)) (by rfl) T.m_law_c_made T.F_law_c_made.kp T.b_law_c_made .nil pass0 (pa_cons (pv 0) (pa_cons (pe_lst pa_nil) pa_nil))))
    (pss_one (ps_ret (pe_lc (own := [("node", 2)]) rfl sc_law_c_living.nd (pi_range1 rfl T.m_range (pa_cons (pe_callB call_len_seq (by rfl) T.m_len (by decide +kernel) (pa_cons (pv 0) pa_nil)) pa_nil)) (blkOk_by (own := [("node", 2)]) (N := ["rows", "wanted", "node", "above", "turn", "operand", "bare"]) (sc := defScope s_law_c_living) (by decide +kernel)) (fun _ _ _ _ _ => (pg_name (i := 2) sc_law_c_living.nd rfl (.inl rfl))) (fun _ _ _ _ _ => pts_one (PW.pt (pw_and (pt_val (pe_ix (ix_listB (K := K) rfl) (pv 3) (pv 2) (fun _ _ => rfl))) (pw_and1 (pt_not (pt_val (pe_ix (ix_listB (K := K) rfl) (pv 6) (pv 2) (fun _ _ => rfl)))))))) (fun _ _ _ _ _ => (pv 2)))))))), ?_⟩
    walk_at "s"
    rename_i A hA
    have naA : a ≠ A := ne_of_none hX hA
    have hxn : ((xs.length : Int)).toNat = rs.length := by omega
    refine lc_range (lo := 0) (n := ((xs.length : Int)).toNat) (fun i H1 => Same H H1 ∧ H1 A = some (.lst (((List.range i).map fun (n : Nat) => decide ((n : Int) ∈ ks)).map V.bl))) ?_ ?_ ?_
    · exact ⟨same_new hA, upd_same⟩
    · intro i H1 hi hP
      obtain ⟨sm, b2⟩ := hP
      have hk2 := sm _ _ hk
      simp only [Int.zero_add]
      walk_at "s"
      refine ⟨flat_ints, _, b2, sz_less (by rw [List.length_map, List.length_map, List.length_range]; omega), same_mut sm hA, ?_⟩
      rw [show (if false = true then !inV (V.int (i : Int)) (ks.map V.int) else inV (V.int (i : Int)) (ks.map V.int)) = inV (V.int (i : Int)) (ks.map V.int) from rfl, inV_int, upd_same, List.range_succ, List.map_append, List.map_append]
      rfl
    · intro H1 hP
      obtain ⟨sm, b2⟩ := hP
      rw [hxn, ← wst_list hin] at b2
      have hX1 := sm _ _ hX
      walk_at "s"
      refine for_range (lo := 0) (n := ((xs.length : Int)).toNat) (fun i σ H2 => ∃ (v2 v4 v5 v6 : Option V) (bs : List Bool), σ = [some (.ref a), some (.ref k), v2, some (.ref A), v4, v5, v6] ∧ Same H H2 ∧ bs.length = rs.length ∧ H2 A = some (.lst (bs.map V.bl)) ∧ dn rs (rs.length - i) bs = abv rs ks) ?_ ?_ ?_
      · exact ⟨_, _, _, _, _, rfl, sm, wst_len, b2, rfl⟩
      · intro i σ H2 hi hP
        obtain ⟨v2, v4, v5, v6, bs, rfl, sm, b1, b2, hdn⟩ := hP
        have hX2 := sm _ _ hX
        simp only [Int.zero_add]
        obtain ⟨n, hn2⟩ : ∃ n : Nat, n + i + 1 = rs.length := ⟨rs.length - i - 1, by omega⟩
        have ev : (xs.length : Int) - 1 - (i : Int) = (n : Int) := by omega
        have er : rs[n]? = some rs[n] := List.getElem?_eq_getElem (by omega)
        obtain ⟨u, eu, t, o, rfl, ht, ho⟩ := hE.get er
        have ht2 := sm _ _ ht
        have ho0 : H o = some (.tup (rs[n].ops.map V.int)) := ho
        have ho2 := sm _ _ ho0
        have hok := hW n _ er
        have hat := atI_nat eu
        rw [show rs.length - i = n + 1 from by omega, dn_succ] at hdn
        unfold step1 at hdn
        rw [er] at hdn
        have hdn : dn rs n (if flag bs (n : Int) = true then sets bs rs[n].ops else bs) = abv rs ks := hdn
        have eni : rs.length - (i + 1) = n := by omega
        generalize rs[n] = r at ht2 ho0 ho2 hok hdn
        walk_at "s"
        simp only [ev]
        refine ⟨_, _, _, _, rfl, rfl, SqL.of b2, at_flag (f := bs) (o := (n : Int)) (by omega) (by omega), ?_⟩
        walk_at "s"
        · rename_i e
          rw [if_pos e] at hdn
          refine for_tup (xs := r.ops.map V.int) (fun j σ H3 => ∃ (v5 : Option V), σ = [some (.ref a), some (.ref k), some (.int (n : Int)), some (.ref A), some (.int i), v5, v6] ∧ Same H H3 ∧ H3 A = some (.lst ((sets bs (r.ops.take j)).map V.bl))) ?_ ?_ ?_ ?_
          · exact ⟨_, rfl, sm, b2⟩
          · intro j σ H3 hj hP
            obtain ⟨v5, rfl, sm3, c2⟩ := hP
            exact SqT.of (sm3 _ _ ho0)
          · intro j x σ H3 hj hP
            obtain ⟨v5, rfl, sm3, c2⟩ := hP
            obtain ⟨z, rfl, hz⟩ := map_get hj
            obtain ⟨z0, z1⟩ := hok.2.1 z (List.mem_of_getElem? hz)
            walk_at "s"
            refine ⟨A, _, z, z.toNat, rfl, rfl, c2, ixN_flag z0 (by rw [List.length_map, sets_len, b1]; omega), ?_⟩
            refine ⟨_, rfl, same_mut sm3 hA, ?_⟩
            rw [upd_same, take_snoc hz]
            have e2 : sets bs (r.ops.take j ++ [z]) = (sets bs (r.ops.take j)).set z.toNat true := by
              unfold sets
              rw [List.foldl_append]
              rfl
            rw [e2, List.map_set]
          · intro σ H3 hP
            obtain ⟨v5, rfl, sm3, c2⟩ := hP
            rw [List.length_map, List.take_length] at c2
            exact ⟨_, _, _, _, sets bs r.ops, rfl, sm3, by rw [sets_len, b1], c2, by rw [eni]; exact hdn⟩
        · rename_i e
          rw [if_neg e] at hdn
          exact ⟨_, _, _, _, bs, rfl, sm, b1, b2, by rw [eni]; exact hdn⟩
      · intro σ H2 hP
        obtain ⟨v2, v4, v5, v6, bs, rfl, sm, b1, b2, hdn⟩ := hP
        rw [hxn, Nat.sub_self] at hdn
        have hdn : bs = abv rs ks := hdn
        subst hdn
        have hX2 := sm _ _ hX
        walk_at "s"
        rename_i N hN
        refine ⟨a, N, rs, [], rfl, (hR.same sm).same (same_new hN), hW, hn, upd_same, fun B H3 sm3 nB hB => ?_⟩
        have sm4 : Same H2 H3 := (same_new hN).trans sm3
        have hX3 := sm4 _ _ hX2
        have b3 := sm4 _ _ b2
        walk_at "s"
        rename_i D hD
        have nD : H D = none := (sm.trans sm4).free hD
        refine lc_range (lo := 0) (n := ((xs.length : Int)).toNat) (fun i H4 => Same H3 H4 ∧ H4 D = some (.lst ((((List.range i).filter fun (n : Nat) => liv rs ks (n : Int)).map fun (n : Nat) => (n : Int)).map V.int))) ?_ ?_ ?_
        · exact ⟨same_new hD, upd_same⟩
        · intro i H4 hi hP
          obtain ⟨sm5, g1⟩ := hP
          have k1 := sm5 _ _ b3
          have k2 := sm5 _ _ hB
          simp only [Int.zero_add]
          have hll := List.length_filter_le (fun (n : Nat) => liv rs ks (n : Int)) (List.range i)
          rw [List.length_range] at hll
          walk_at "s"
          refine ⟨_, _, _, _, rfl, rfl, SqL.of k1, at_flag (f := abv rs ks) (o := (i : Int)) (by omega) (by rw [b1]; omega), ?_⟩
          have skip : liv rs ks (i : Int) = false → H4 D = some (.lst ((((List.range (i + 1)).filter fun (n : Nat) => liv rs ks (n : Int)).map fun (n : Nat) => (n : Int)).map V.int)) := fun e => by
            rw [List.range_succ, List.filter_append]
            have : [i].filter (fun (n : Nat) => liv rs ks (n : Int)) = [] := by
              rw [List.filter_cons, if_neg (by rw [e]; decide)]
              rfl
            rw [this, List.append_nil]
            exact g1
          walk_at "s"
          · rename_i e1
            refine ⟨_, _, _, _, rfl, rfl, SqL.of k2, at_flag (f := flags rs []) (o := (i : Int)) (by omega) (by rw [flags_len]; omega), ?_⟩
            walk_at "s"
            · rename_i e2
              refine ⟨_, g1, sz_less (by rw [List.length_map, List.length_map]; omega), same_mut sm5 hD, ?_⟩
              rw [upd_same, List.range_succ, List.filter_append, List.map_append, List.map_append]
              have : [i].filter (fun (n : Nat) => liv rs ks (n : Int)) = [i] := by
                rw [List.filter_cons, if_pos (by unfold liv bar; rw [e1]; simpa using e2)]
                rfl
              rw [this]
              rfl
            · rename_i e2
              refine skip (by unfold liv bar; rw [e1]; simpa using e2)
          · rename_i e1
            exact skip (by unfold liv; rw [show flag (abv rs ks) (i : Int) = false from by simpa using e1]; rfl)
        · intro H4 hP
          obtain ⟨sm5, g1⟩ := hP
          rw [hxn] at g1
          walk_at "s"
          exact q D H4 ((sm.trans sm4).trans sm5) nD g1
end
end K15W
set_option Elab.async false
set_option linter.all false
set_option maxRecDepth 100000
/-! Rules15b: isinstance within a comprehension. -/
namespace LW
open PySem PySem.Spec PyProof.Rows L2
theorem call_isiB {X : Cx} {K : PySem.W.Frag} (hK : X.K = K) : CallR X (.builtin "isinstance") (rIsi K) := by
  subst hK
  exact call_isi
end LW
set_option Elab.async false
set_option linter.all false
set_option maxRecDepth 100000
set_option maxHeartbeats 4000000
namespace K15W
open PySem PySem.Spec PyProof.Rows L2 TL LW NT FL NF
local macro_rules | `(tactic| walk_at "ne") => `(tactic| first
  | (with_reducible assumption)
  | exact Ne.symm (by assumption)
  | (with_reducible exact ne_of_none (by assumption) (by assumption))
  | (with_reducible exact (ne_of_none (by assumption) (by assumption)).symm)
  | (apply ne_of_none; (case h' => assumption); (case h => walk_at "hp"))
  | (apply Ne.symm; apply ne_of_none; (case h' => assumption); (case h => walk_at "hp")))
local macro_rules | `(tactic| walk_at "hp") => `(tactic| first
  | (with_reducible assumption)
  | exact upd_same
  | (with_reducible exact hp_new (by assumption) (by assumption))
  | (apply hp_new; (case n => assumption); (case h => walk_at "hp"))
  | (refine (upd_ne ?ne).trans ?hp; (case ne => walk_at "ne"); (case hp => walk_at "hp")))
local macro_rules | `(tactic| walk_at "sq") => `(tactic| first
  | ((with_reducible show SqL _ _ _ _); assumption)
  | ((with_reducible show SqT _ _ _ _); assumption)
  | exact SqL.of (by assumption)
  | exact SqL.of upd_same
  | exact SqT.of (by assumption)
  | exact SqT.of upd_same
  | (apply SqL.of; walk_at "hp")
  | (apply SqT.of; walk_at "hp"))
local macro_rules | `(tactic| walk_at "len") => `(tactic| first
  | (with_reducible assumption)
  | exact sz_small (by omega)
  | exact sz_less (by omega)
  | decide
  | (refine sz_small ?_; simp only [List.length_append, List.length_cons, List.length_nil, List.length_map, str_len]; omega)
  | (refine sz_less ?_; simp only [List.length_append, List.length_cons, List.length_nil, List.length_map, str_len]; omega))
local macro_rules | `(tactic| walk_at "cond") => `(tactic| first
  | omega
  | (split <;> omega)
  | (with_reducible assumption)
  | exact .inl ⟨by omega, by omega⟩
  | exact .inr ⟨by omega, by omega⟩
  | exact ⟨by omega, by omega⟩
  | (show (0 : Int) < _; omega)
  | (show (0 : Int) < _; decide +kernel)
  | exact ⟨by omega, by omega, by decide⟩
  | walk_at "len"
  | rfl
  | (show CMulW _ _; unfold CMulW; decide +kernel)
  | exact ⟨_, rfl⟩
  | decide +kernel
  | exact ⟨_, by walk_at "sq"⟩
  | exact .inl ⟨rfl, _, by walk_at "sq"⟩)
local macro_rules | `(tactic| walk_at "at") => `(tactic| first
  | (with_reducible assumption)
  | exact atI_nat (by assumption)
  | exact atI_last _ _
  | exact atI_nat (j := 0) rfl
  | exact atI_nat (j := 1) rfl
  | exact atI_nat (j := 2) rfl
  | exact atI_nat (j := 3) rfl
  | exact atI_nat (j := 4) rfl)
local macro_rules | `(tactic| walk_at "ix") => `(tactic| first
  | (with_reducible assumption)
  | (with_reducible exact ixN_0 (by simp; done))
  | (with_reducible exact ixN_1 (by simp; done))
  | (with_reducible exact ixN_2 (by simp; done))
  | (with_reducible exact Evl.ixN_nat (by assumption))
  | (with_reducible exact Evl.ixN_nat (by omega)))
local macro_rules | `(tactic| walk_at "v") => `(tactic| first
  | exact val_var rfl
  | (with_reducible exact val_c)
  | (with_reducible apply val_orV; (case ha => walk_at "v"); (case hb => walk_at "v"))
  | (with_reducible apply val_andV; (case ha => walk_at "v"); (case hb => walk_at "v"))
  | (with_reducible apply val_notV; walk_at "v")
  | (with_reducible apply val_ifS; (case h => walk_at "w"); (case ha => walk_at "v"); (case hb => walk_at "v"))
  | (with_reducible apply val_ifI; (case h => walk_at "w"); (case ha => walk_at "v"); (case hb => walk_at "v"))
  | (with_reducible apply val_ifB; (case h => walk_at "w"); (case ha => walk_at "v"); (case hb => walk_at "v"))
  | (with_reducible apply val_eqS; (case ha => walk_at "v"); (case hb => walk_at "v"))
  | (with_reducible apply val_eqI; (case ha => walk_at "v"); (case hb => walk_at "v"))
  | (with_reducible apply val_neS; (case ha => walk_at "v"); (case hb => walk_at "v"))
  | (with_reducible apply val_neI; (case ha => walk_at "v"); (case hb => walk_at "v"))
  | (with_reducible apply val_op; (case ha => walk_at "v"); (case hb => walk_at "v"); (case hr => exact fun Q q => ⟨_, _, rfl, rfl, q⟩)))
local macro_rules | `(tactic| walk_at "w") => `(tactic| first
  | (with_reducible apply ans_or2; (case h1 => walk_at "w"); (case h2 => walk_at "w"))
  | (with_reducible apply ans_and2; (case h1 => walk_at "w"); (case h2 => walk_at "w"))
  | (with_reducible apply ans_not; walk_at "w")
  | (with_reducible apply ans_test; walk_at "v")
  | (with_reducible apply ans_val; walk_at "v"))
local macro_rules | `(tactic| walk_at "s2") => `(tactic| first
  | refine ⟨_, rfl, ?_⟩
  | refine ⟨_, _, rfl, rfl, ?_⟩
  | (refine And.intro ?cc ?_; (case cc => walk_at "cond"))
  | refine ⟨_, _, _, _, rfl, rfl, by walk_at "sq", by walk_at "at", ?_⟩
  | refine ⟨_, _, _, _, rfl, rfl, by walk_at "hp", by walk_at "ix", ?_⟩
  | refine ⟨_, _, _, _, rfl, rfl, by walk_at "hp", by walk_at "hp", by walk_at "len", ?_⟩
  | refine ⟨_, _, _, rfl, rfl, by walk_at "len", by walk_at "at", ?_⟩
  | refine ⟨_, _, _, rfl, rfl, by walk_at "hp", by walk_at "len", ?_⟩
  | refine ⟨_, _, _, rfl, rfl, by walk_at "hp", by walk_at "at", ?_⟩
  | refine ⟨_, _, rfl, rfl, by walk_at "sq", ?_⟩
  | refine ⟨_, _, rfl, rfl, by walk_at "len", ?_⟩
  | refine ⟨_, _, rfl, by walk_at "sq", ?_⟩
  | refine ⟨_, _, rfl, .inl (by walk_at "sq"), ?_⟩
  | refine ⟨_, _, rfl, .inr (by walk_at "sq"), ?_⟩
  | refine ⟨_, _, rfl, by walk_at "sq", rfl, ?_⟩
  | refine ⟨_, fun _ _ h => h, ?_⟩
  | refine .inl ⟨_, rfl, ?_⟩
  | refine ⟨_, _, .type "int", .type _, true, rfl, ClsV.ty _, .base (.int _), kit_ty (by decide +kernel), ?_⟩
  | refine ⟨_, _, .type "int", .type _, false, rfl, ClsV.ty _, .base (.int _), kit_ty (by decide +kernel), ?_⟩
  | refine ⟨_, _, .type "bool", .type _, true, rfl, ClsV.ty _, .base (.bl _), kit_ty (by decide +kernel), ?_⟩
  | refine ⟨_, _, .type "bool", .type _, false, rfl, ClsV.ty _, .base (.bl _), kit_ty (by decide +kernel), ?_⟩
  | refine ⟨_, _, .type "str", .type _, true, rfl, ClsV.ty _, .base (.str _), kit_ty (by decide +kernel), ?_⟩
  | refine ⟨_, _, .type "str", .type _, false, rfl, ClsV.ty _, .base (.str _), kit_ty (by decide +kernel), ?_⟩
  | refine ⟨_, _, .type "NoneType", .type _, true, rfl, ClsV.ty _, .base (.non), kit_ty (by decide +kernel), ?_⟩
  | refine ⟨_, _, .type "NoneType", .type _, false, rfl, ClsV.ty _, .base (.non), kit_ty (by decide +kernel), ?_⟩
  | refine ⟨_, _, .type "list", .type _, true, rfl, ClsV.ty _, .base (.lst (by walk_at "hp")), kit_ty (by decide +kernel), ?_⟩
  | refine ⟨_, _, .type "list", .type _, false, rfl, ClsV.ty _, .base (.lst (by walk_at "hp")), kit_ty (by decide +kernel), ?_⟩
  | refine ⟨_, _, .type "tuple", .type _, true, rfl, ClsV.ty _, .base (.tup (by walk_at "hp")), kit_ty (by decide +kernel), ?_⟩
  | refine ⟨_, _, .type "tuple", .type _, false, rfl, ClsV.ty _, .base (.tup (by walk_at "hp")), kit_ty (by decide +kernel), ?_⟩
  | fail)
local macro_rules | `(tactic| walk_at "s1") => `(tactic| first
  | (with_reducible refine go_gcons ?_)
  | (with_reducible refine go_gnil ?_)
  | (with_reducible refine go_seqM ?_)
  | (with_reducible refine go_nextM ?_)
  | (with_reducible refine go_contM ?_)
  | (with_reducible refine go_brkM ?_)
  | (with_reducible refine go_retM ?_)
  | (with_reducible refine go_asgM ?_)
  | (with_reducible refine go_test ?_)
  | (with_reducible refine go_rI0 ?_)
  | (with_reducible refine go_op ?_)
  | (with_reducible refine go_var rfl ?_)
  | ((with_reducible show tFor (iRng1 _) _ _ _ _ _); refine (show iRng1 _ _ _ _ from ?_))
  | (with_reducible refine go_rng1 ?_)
  | (with_reducible refine go_c ?_)
  | (with_reducible apply go_pick; (case hs => walk_at "hp"); (case h0 => walk_at "cond"); (case h1 => walk_at "cond"); (case' q => intro k a b c h0 h1))
  | (with_reducible refine go_nil ?_)
  | (with_reducible refine go_cons ?_)
  | (with_reducible refine go_call ?_)
  | (with_reducible refine go_cb ?_)
  | (with_reducible refine go_next ?_)
  | (with_reducible refine go_cont ?_)
  | (with_reducible refine go_ret ?_)
  | (with_reducible refine go_name ?_)
  | (with_reducible refine go_seq ?_)
  | (with_reducible refine go_asg ?_)
  | (with_reducible apply go_or; (case h => walk_at "v"))
  | (with_reducible apply go_and; (case h => walk_at "v"))
  | (with_reducible apply go_andL; (case h => walk_at "v"); (case' h1 => intro e); (case' h2 => intro e))
  | (with_reducible apply go_orL; (case h => walk_at "v"); (case' h1 => intro e); (case' h2 => intro e))
  | (with_reducible apply go_ifE; (case h => walk_at "v"))
  | (with_reducible apply go_ifOr; (case h => walk_at "w"); (case' h1 => intro e); (case' h2 => intro e))
  | (with_reducible apply go_ifAnd; (case h => walk_at "w"); (case' h1 => intro e); (case' h2 => intro e))
  | (with_reducible refine go_min ?_)
  | (with_reducible refine iteT ?_)
  | (with_reducible refine iteF ?_)
  | (with_reducible refine iteD (fun _ => ?_) (fun e => absurd rfl e))
  | (with_reducible refine iteS (fun e => ?_) (fun e => ?_))
  | (with_reducible refine iteI (fun e => ?_) (fun e => ?_))
  | (with_reducible refine iteSn (fun e => ?_) (fun e => ?_))
  | (with_reducible refine iteIn (fun e => ?_) (fun e => ?_))
  | (with_reducible refine iteD (fun e => ?_) (fun e => ?_))
  | (with_reducible refine iteDn (fun e => ?_) (fun e => ?_))
  | (with_reducible refine ite2 (fun e => ?_) (fun e => ?_))
  | (refine fun (p : Addr) (hp : _ = none) => ?_)
  | ((conv => whnf); walk_at "s2")
  | fail)
local macro_rules | `(tactic| walk_at "s") => `(tactic| repeat' (first
  | (with_reducible refine go_gcons ?_)
  | (with_reducible refine go_gnil ?_)
  | (with_reducible refine go_seqM ?_)
  | (with_reducible refine go_nextM ?_)
  | (with_reducible refine go_contM ?_)
  | (with_reducible refine go_brkM ?_)
  | (with_reducible refine go_retM ?_)
  | (with_reducible refine go_asgM ?_)
  | (with_reducible refine go_test ?_)
  | (with_reducible refine go_rI0 ?_)
  | (with_reducible refine go_op ?_)
  | (with_reducible refine go_var rfl ?_)
  | ((with_reducible show tFor (iRng1 _) _ _ _ _ _); refine (show iRng1 _ _ _ _ from ?_))
  | (with_reducible refine go_rng1 ?_)
  | (with_reducible refine go_c ?_)
  | (with_reducible apply go_pick; (case hs => walk_at "hp"); (case h0 => walk_at "cond"); (case h1 => walk_at "cond"); (case' q => intro k a b c h0 h1))
  | (with_reducible refine go_nil ?_)
  | (with_reducible refine go_cons ?_)
  | (with_reducible refine go_call ?_)
  | (with_reducible refine go_cb ?_)
  | (with_reducible refine go_next ?_)
  | (with_reducible refine go_cont ?_)
  | (with_reducible refine go_ret ?_)
  | (with_reducible refine go_name ?_)
  | (with_reducible refine go_seq ?_)
  | (with_reducible refine go_asg ?_)
  | (with_reducible apply go_or; (case h => walk_at "v"))
  | (with_reducible apply go_and; (case h => walk_at "v"))
  | (with_reducible apply go_andL; (case h => walk_at "v"); (case' h1 => intro e); (case' h2 => intro e))
  | (with_reducible apply go_orL; (case h => walk_at "v"); (case' h1 => intro e); (case' h2 => intro e))
  | (with_reducible apply go_ifE; (case h => walk_at "v"))
  | (with_reducible apply go_ifOr; (case h => walk_at "w"); (case' h1 => intro e); (case' h2 => intro e))
  | (with_reducible apply go_ifAnd; (case h => walk_at "w"); (case' h1 => intro e); (case' h2 => intro e))
  | (with_reducible refine go_min ?_)
  | (with_reducible refine iteT ?_)
  | (with_reducible refine iteF ?_)
  | (with_reducible refine iteD (fun _ => ?_) (fun e => absurd rfl e))
  | (with_reducible refine iteS (fun e => ?_) (fun e => ?_))
  | (with_reducible refine iteI (fun e => ?_) (fun e => ?_))
  | (with_reducible refine iteSn (fun e => ?_) (fun e => ?_))
  | (with_reducible refine iteIn (fun e => ?_) (fun e => ?_))
  | (with_reducible refine iteD (fun e => ?_) (fun e => ?_))
  | (with_reducible refine iteDn (fun e => ?_) (fun e => ?_))
  | (with_reducible refine ite2 (fun e => ?_) (fun e => ?_))
  | (refine fun (p : Addr) (hp : _ = none) => ?_)
  | ((conv => whnf); walk_at "s2")
  | fail))

section
variable {P : Program} {w : World} {K : PySem.W.Frag} {mg : Str → Option Value} {base : Heap}
/-! ### threads that use nodes of one another -/
theorem rows_snoc {H H' : Hp} {ys : List V} {rs : List Rw} {t O : Addr} {z : Int} {ops : List Int} {b : Bool} (h : Each (RowT H) ys rs) (ts : Ts H H') (ht : H' t = some (.tup [.int z, .ref O, .bl b])) (ho : H' O = some (.tup (ops.map V.int))) : Each (RowT H') (ys ++ [.ref t]) (rs ++ [⟨z, ops, b⟩]) :=
  (h.mono fun _ _ => RowT.ts ts).snoc ⟨t, O, rfl, ht, ho⟩
theorem row_atB {H : Hp} {rx : List V} {rs : List Rw} (h : Each (RowT H) rx rs) {n : Int} (n0 : 0 ≤ n) (n1 : n < (rs.length : Int)) : ∃ (r : Rw) (t o : Addr), rs[n.toNat]? = some r ∧ atI rx n = some (.ref t) ∧ H t = some (.tup [.int r.sz, .ref o, .bl r.src]) ∧ H o = some (.tup (r.ops.map V.int)) := by
  have er : rs[n.toNat]? = some rs[n.toNat] := List.getElem?_eq_getElem (by omega)
  obtain ⟨u, eu, t, o, rfl, ht, ho⟩ := h.get er
  refine ⟨_, t, o, er, ?_, ht, ho⟩
  rw [show n = ((n.toNat : Nat) : Int) from by omega]
  exact atI_nat eu
theorem InR.snoc {rs : List Rw} {l : List Int} (h : InR rs l) (r : Rw) : InR (rs ++ [r]) l := fun x hx => by
  have := h x hx
  rw [List.length_append, List.length_singleton]
  omega
def spAny : Sp := fun vs H Q _ => ∃ (s : Addr), vs = [.ref s] ∧ Src H s ∧ ∀ (t r k : Addr) (H' : Hp) (rs : List Rw) (ws : List Int), But s H H' → H r = none → H k = none → H' t = some (.tup [.ref r, .ref k]) → RowsT H' r rs → WF rs → 0 < rs.length → rs.length ≤ 9 → Ints H' k ws → InR rs ws → ws.length ≤ 4 → Src H' s → Q (.ref t) H'
theorem ok_braid (T : Top w K mg) : FnOk P w K mg base CX0 2 T.a_law_c_braid T.d_law_c_braid ["source"] spAny := by
  have G_law_pick := ok_pick (P := P) (w := w) (base := base) T
  refine T.F_law_c_braid.ok sc_law_c_braid (fun vs H Q E h => ?_) (fun cdv A0 outer s0 H vs Q E hr h => ?_)
  · obtain ⟨s, rfl, _⟩ := h
    rfl
  · obtain ⟨s, rfl, ⟨a, b, c, hs⟩, q⟩ := h
    refine ⟨_, (pss_cons (ps_set (i := 1) sc_law_c_braid.nd rfl (.inl rfl) (pe_op op_add pe_int (pe_call G_law_pick (hr.mono (by omega)) (by rfl) T.m_law_pick T.F_law_pick.kp T.b_law_pick .nil pass0 (pa_cons (pv 0) (pa_cons pe_int pa_nil)))))
    (pss_cons (ps_setLc (i := 2) (own := [("node", 7)]) rfl sc_law_c_braid.nd rfl rfl (sw_true rfl rfl rfl (by decide +kernel)) (pi_range1 rfl T.m_range (pa_cons (pv 1) pa_nil)) (blkOk_by (own := [("node", 7)]) (N := ["source", "many", "rows", "tops", "turn", "at", "operands", "node"]) (sc := defScope s_law_c_braid) (by decide +kernel)) (fun _ _ _ _ _ => (pg_name (i := 7) sc_law_c_braid.nd rfl (.inl rfl))) (fun _ _ _ _ _ => pts_nil) (fun _ _ _ _ _ => (pe_tup (pa_cons (pe_op op_add pe_int (pe_ix (ix_listB (K := K) rfl) (pe_lst (pa_cons pe_int (pa_cons pe_int (pa_cons pe_int (pa_cons pe_int (pa_cons pe_int pa_nil)))))) (pe_call G_law_pick (hr.mono (by omega)) (by rfl) T.m_law_pick T.F_law_pick.kp T.b_law_pick .nil pass0 (pa_cons (pv 0) (pa_cons pe_int pa_nil))) (fun _ _ => rfl))) (pa_cons (pe_tup pa_nil) (pa_cons pe_bl pa_nil))))))
    (pss_cons (ps_set (i := 3) sc_law_c_braid.nd rfl (.inl rfl) (pe_listRg rfl (by rfl) T.m_list (prg_1 (by rfl) T.m_range (pv 1))))
    (pss_cons (ps_for PassesOwn.never rfl (pi_range1 rfl T.m_range (pa_cons (pe_op op_sub (pe_op op_sub pe_int (pv 1)) (pe_call G_law_pick (hr.mono (by omega)) (by rfl) T.m_law_pick T.F_law_pick.kp T.b_law_pick .nil pass0 (pa_cons (pv 0) (pa_cons pe_int pa_nil)))) pa_nil)) (pg_name (i := 4) sc_law_c_braid.nd rfl (.inl rfl))
    (pss_cons (ps_set (i := 5) sc_law_c_braid.nd rfl (.inl rfl) (pe_call G_law_pick (hr.mono (by omega)) (by rfl) T.m_law_pick T.F_law_pick.kp T.b_law_pick .nil pass0 (pa_cons (pv 0) (pa_cons (pv 1) pa_nil))))
    (Evl.pss_cut (ps_set (i := 6) sc_law_c_braid.nd rfl (.inl rfl) (pe_op op_cat (pe_lst (pa_cons (pe_ix ix_list (pv 3) (pv 5) (fun _ _ => rfl)) pa_nil)) (pe_ifExp (pt_cmpR op_eq (pe_call G_law_pick (hr.mono (by omega)) (by rfl) T.m_law_pick T.F_law_pick.kp T.b_law_pick .nil pass0 (pa_cons (pv 0) (pa_cons pe_int pa_nil))) pe_int (nomark _)) (pe_lst (pa_cons (pe_call G_law_pick (hr.mono (by omega)) (by rfl) T.m_law_pick T.F_law_pick.kp T.b_law_pick .nil pass0 (pa_cons (pv 0) (pa_cons (pe_callB call_len_seq (by rfl) T.m_len (by decide +kernel) (pa_cons (pv 2) pa_nil)) pa_nil))) pa_nil)) (pe_lst pa_nil))))
    (Evl.pss_cut (ps_expr (pe_bm PySem.F.plainAttrs_list PySem.F.slot_list_append PySem.F.type_list_append mt_append (pv 2) (pa_cons (pe_tup (pa_cons (pe_ix ix_tup (pe_ix ix_list (pv 2) (pe_ix ix_list (pv 3) (pv 5) (fun _ _ => rfl)) (fun _ _ => rfl)) pe_int (fun _ _ => rfl)) (pa_cons (pe_callTy call_tuple_of (by rfl) T.m_tuple (by decide +kernel) (pa_cons (pe_ifExp (pt_cmpR op_eq (pe_call G_law_pick (hr.mono (by omega)) (by rfl) T.m_law_pick T.F_law_pick.kp T.b_law_pick .nil pass0 (pa_cons (pv 0) (pa_cons pe_int pa_nil))) pe_int (nomark _)) (pv 6) (pe_callB cr_sortedI (by rfl) T.m_sorted (by decide +kernel) (pa_cons (pv 6) pa_nil))) pa_nil)) (pa_cons pe_bl pa_nil)))) pa_nil)))
    (pss_one (ps_asg (pe_op op_sub (pe_callB call_len_seq (by rfl) T.m_len (by decide +kernel) (pa_cons (pv 2) pa_nil)) pe_int) (pg_sub (pv 3) (pv 5) set_list)))))))
    (pss_one (ps_ret (pe_tup (pa_cons (pv 2) (pa_cons (pv 3) pa_nil))))))))), ?_⟩
    walk_at "s"
    rename_i k0 a0 b0 c0 k00 k01 R hR
    have nsR : s ≠ R := ne_of_none upd_same hR
    have hR0 : H R = none := by
      rw [upd_ne nsR.symm] at hR
      exact hR
    obtain ⟨many, em⟩ : ∃ many : Int, 2 + k0 = many := ⟨_, rfl⟩
    simp only [em]
    refine lc_range (lo := 0) (n := many.toNat) (fun i H2 => ∃ (a b c : Int) (ys : List V) (rs : List Rw), But s H H2 ∧ H2 s = some (.lst [.int a, .int b, .int c]) ∧ H2 R = some (.lst ys) ∧ Each (RowT H2) ys rs ∧ WF rs ∧ rs.length = i) ?_ ?_ ?_
    · exact ⟨a0, b0, c0, [], [], But.upd.trans' (same_new hR), hp_new upd_same hR, upd_same, .nil, .nil, rfl⟩
    · intro i H2 hi hP
      obtain ⟨a, b, c, ys, rs, but, h1, h2, h3, h4, h5⟩ := hP
      have hyl := h3.len
      walk_at "s"
      rename_i L hL k a1 b1 c1 k0 k1
      have nsL : s ≠ L := ne_of_none h1 hL
      obtain ⟨v, hv, hat⟩ := pick_at (l := [0, 0, 0, 1, 2]) k0 k1
      have hv := mem02 hv
      refine ⟨_, _, _, _, rfl, rfl, SqL.of ((upd_ne nsL.symm).trans upd_same), hat, ?_⟩
      walk_at "s"
      rename_i O hO t ht
      have ts : Ts H2 (upd (upd (upd (upd H2 L (.lst [.int 0, .int 0, .int 0, .int 1, .int 2])) s (.lst [.int a1, .int b1, .int c1])) O (.tup [])) t (.tup [.int (1 + v), .ref O, .bl true])) := (((Ts.of (same_new hL)).trans (Ts.upd ((upd_ne nsL).trans h1))).trans (Ts.of (same_new hO))).trans (Ts.of (same_new ht))
      have nRL : R ≠ L := ne_of_none h2 hL
      have h2c : upd (upd H2 L (.lst [.int 0, .int 0, .int 0, .int 1, .int 2])) s (.lst [.int a1, .int b1, .int c1]) R = some (.lst ys) := (upd_ne nsR.symm).trans ((upd_ne nRL).trans h2)
      have h2d := hp_new (x := .tup [.int (1 + v), .ref O, .bl true]) (hp_new (x := .tup []) h2c hO) ht
      have h1d := hp_new (x := .tup [.int (1 + v), .ref O, .bl true]) (hp_new (x := .tup []) (upd_same : upd (upd H2 L (.lst [.int 0, .int 0, .int 0, .int 1, .int 2])) s (.lst [.int a1, .int b1, .int c1]) s = _) hO) ht
      have hO2 := hp_new (x := .tup [.int (1 + v), .ref O, .bl true]) (upd_same : upd (upd (upd H2 L (.lst [.int 0, .int 0, .int 0, .int 1, .int 2])) s (.lst [.int a1, .int b1, .int c1])) O (.tup []) O = _) ht
      have hT2 : upd (upd (upd (upd H2 L (.lst [.int 0, .int 0, .int 0, .int 1, .int 2])) s (.lst [.int a1, .int b1, .int c1])) O (.tup [])) t (.tup [.int (1 + v), .ref O, .bl true]) t = _ := upd_same
      have bu : But s H (upd (upd (upd (upd H2 L (.lst [.int 0, .int 0, .int 0, .int 1, .int 2])) s (.lst [.int a1, .int b1, .int c1])) O (.tup [])) t (.tup [.int (1 + v), .ref O, .bl true])) := (((but.trans' (same_new hL)).trans But.upd).trans' (same_new hO)).trans' (same_new ht)
      generalize upd (upd (upd (upd H2 L (.lst [.int 0, .int 0, .int 0, .int 1, .int 2])) s (.lst [.int a1, .int b1, .int c1])) O (.tup [])) t (.tup [.int (1 + v), .ref O, .bl true]) = H3 at ts h2d h1d hO2 hT2 bu ⊢
      have nRt : t ≠ R := (ne_of h2d hT2 (by intro z; cases z)).symm
      have nRO : O ≠ R := (ne_of h2d hO2 (by intro z; cases z)).symm
      refine ⟨ys, h2d, sz_less (by omega), a1, b1, c1, ys ++ [.ref t], rs ++ [⟨1 + v, [], true⟩], but_mut bu hR0, (upd_ne nsR).trans h1d, upd_same, rows_snoc h3 (ts.trans (Ts.upd h2d)) ((upd_ne nRt).trans hT2) ((upd_ne nRO).trans hO2 : _ = some (.tup (([] : List Int).map V.int))), h4.snoc ⟨by show 1 ≤ 1 + v; omega, by simp, by simp, by show 0 + 10 * (1 + v).toNat ≤ 34; omega⟩, by simp [h5]⟩
    · intro H2 hP
      obtain ⟨a, b, c, ys, rs, but, h1, h2, h3, h4, h5⟩ := hP
      have hyl := h3.len
      walk_at "s"
      rename_i TP hTP kc a1 b1 c1 kc0 kc1
      have nsT : s ≠ TP := ne_of_none h1 hTP
      have nRT : R ≠ TP := ne_of_none h2 hTP
      have hT0 : H TP = none := but.free nsT.symm hTP
      have ts : Ts H2 (upd (upd H2 TP (.lst (rgV 0 many))) s (.lst [.int a1, .int b1, .int c1])) := (Ts.of (same_new hTP)).trans (Ts.upd ((upd_ne nsT).trans h1))
      refine for_rangeQ (lo := 0) (n := (9 - many - kc).toNat) Q rfl (fun i σ H3 => ∃ (v4 v5 v6 : Option V) (a b c : Int) (ys : List V) (rs : List Rw) (tp : List Int), σ = [some (.ref s), some (.int many), some (.ref R), some (.ref TP), v4, v5, v6, none] ∧ But s H H3 ∧ H3 s = some (.lst [.int a, .int b, .int c]) ∧ H3 R = some (.lst ys) ∧ Each (RowT H3) ys rs ∧ WF rs ∧ (rs.length : Int) = many + i ∧ Ints H3 TP tp ∧ (tp.length : Int) = many ∧ InR rs tp) ?_ ?_ ?_
      · refine ⟨_, _, _, a1, b1, c1, ys, rs, (List.range (many - 0).toNat).map fun (n : Nat) => (0 : Int) + (n : Int), rfl, (but.trans' (same_new hTP)).trans But.upd, upd_same, (upd_ne nsR.symm).trans ((upd_ne nRT).trans h2), h3.mono fun _ _ => RowT.ts ts, h4, by omega, ?_, by rw [List.length_map, List.length_range]; omega, fun x hx => ?_⟩
        · refine ((upd_ne nsT.symm).trans upd_same).trans ?_
          unfold rgV
          rw [List.map_map]
          rfl
        · obtain ⟨n, hn, rfl⟩ := List.mem_map.mp hx
          rw [List.mem_range] at hn
          omega
      · intro N X i σ H3 hi hP hN
        obtain ⟨v4, v5, v6, a, b, c, ys, rs, tp, rfl, but, h1, h2, h3, h4, h5, h6, h7, h8⟩ := hP
        have hyl := h3.len
        have m1 : 0 < many := by omega
        walk_at "s"
        rename_i k1 a1 b1 c1 k10 k11
        obtain ⟨tv, htv, hat⟩ := atI_map (f := V.int) (ms := tp) k10 (by omega)
        obtain ⟨tv0, tv1⟩ := h8 tv (List.mem_of_getElem? htv)
        have h6' : H3 TP = some (.lst (tp.map V.int)) := h6
        have htl : tp.length ≤ 10 := by omega
        have ns3 : ∀ b : Addr, H3 b = none → s ≠ b := fun b hb => ne_of_none h1 hb
        refine ⟨fun σ' H4 => ∃ (a b c : Int) (P0 : Addr) (ops : List Int), σ' = [some (.ref s), some (.int many), some (.ref R), some (.ref TP), some (.int (0 + (i : Int))), some (.int k1), some (.ref P0), none] ∧ But s H3 H4 ∧ H4 s = some (.lst [.int a, .int b, .int c]) ∧ H4 P0 = some (.lst (ops.map V.int)) ∧ H3 P0 = none ∧ 0 < ops.length ∧ ops.length ≤ 2 ∧ ∀ o ∈ ops, 0 ≤ o ∧ o < (rs.length : Int), ?_, fun σ' H4 hM => ?_⟩
        · have h2c : upd H3 s (.lst [.int a1, .int b1, .int c1]) R = some (.lst ys) := (upd_ne nsR.symm).trans h2
          have h6c : upd H3 s (.lst [.int a1, .int b1, .int c1]) TP = some (.lst (tp.map V.int)) := (upd_ne nsT.symm).trans h6'
          walk_at "s"
          · rename_i p2 hp2 k2 a2 b2 c2 k20 k21 e k3 a3 b3 c3 k30 k31 p1 hp1 p hp
            have bu : But s H3 (upd (upd (upd (upd (upd H3 s (.lst [.int a1, .int b1, .int c1])) p2 (.lst [.int tv])) s (.lst [.int a2, .int b2, .int c2])) s (.lst [.int a3, .int b3, .int c3])) p1 (.lst [.int k3])) := (((But.upd.trans' (same_new hp2)).trans But.upd).trans But.upd).trans' (same_new hp1)
            have hs1 : upd (upd (upd (upd (upd H3 s (.lst [.int a1, .int b1, .int c1])) p2 (.lst [.int tv])) s (.lst [.int a2, .int b2, .int c2])) s (.lst [.int a3, .int b3, .int c3])) p1 (.lst [.int k3]) s = _ := hp_new upd_same hp1
            have nps := (ne_of_none hs1 hp).symm
            refine ⟨a3, b3, c3, p, [tv, k3], rfl, bu.trans' (same_new hp), hp_new hs1 hp, upd_same, bu.free nps hp, by simp, by simp, fun o ho => ?_⟩
            rcases List.mem_cons.mp ho with ho | ho
            · rw [ho]
              exact ⟨tv0, tv1⟩
            · rw [List.mem_singleton] at ho
              rw [ho]
              omega
          · rename_i p2 hp2 k2 a2 b2 c2 k20 k21 e p1 hp1 p hp
            have bu : But s H3 (upd (upd (upd (upd H3 s (.lst [.int a1, .int b1, .int c1])) p2 (.lst [.int tv])) s (.lst [.int a2, .int b2, .int c2])) p1 (.lst [])) := ((But.upd.trans' (same_new hp2)).trans But.upd).trans' (same_new hp1)
            have hs1 : upd (upd (upd (upd H3 s (.lst [.int a1, .int b1, .int c1])) p2 (.lst [.int tv])) s (.lst [.int a2, .int b2, .int c2])) p1 (.lst []) s = _ := hp_new upd_same hp1
            have nps := (ne_of_none hs1 hp).symm
            refine ⟨a2, b2, c2, p, [tv], rfl, bu.trans' (same_new hp), hp_new hs1 hp, upd_same, bu.free nps hp, by simp, by simp, fun o ho => ?_⟩
            rw [List.mem_singleton] at ho
            rw [ho]
            exact ⟨tv0, tv1⟩
        obtain ⟨a, b, c, P0, ops, rfl, but4, g1, g2, g3, g4, g5, g6⟩ := hM
        have nsP : s ≠ P0 := ns3 _ g3
        have nTP : TP ≠ P0 := ne_of_none h6' g3
        have nRP : R ≠ P0 := ne_of_none h2 g3
        have h2d := but4 _ _ nsR.symm h2
        have h6d := but4 _ _ nsT.symm h6'
        have hE4 : Each (RowT H4) ys rs := h3.mono fun _ _ => RowT.ts (Ts.but but4 h1)
        obtain ⟨rw0, tr, o, er, hat3, htr, ho⟩ := row_atB hE4 tv0 tv1
        have hok := h4 _ _ er
        refine ⟨fun σ' H5 => ∃ (a b c : Int) (t : Addr) (ops : List Int), σ' = [some (.ref s), some (.int many), some (.ref R), some (.ref TP), some (.int (0 + (i : Int))), some (.int k1), some (.ref P0), none] ∧ But s H H5 ∧ H5 s = some (.lst [.int a, .int b, .int c]) ∧ H5 R = some (.lst (ys ++ [.ref t])) ∧ Each (RowT H5) (ys ++ [.ref t]) (rs ++ [⟨rw0.sz, ops, false⟩]) ∧ H5 TP = some (.lst (tp.map V.int)) ∧ ops.length ≤ 2 ∧ ∀ o ∈ ops, 0 ≤ o ∧ o < (rs.length : Int), ?_, fun σ' H5 hM => ?_⟩
        · have fin : ∀ (H6 : Hp) (ops' : List Int) (O t : Addr) (a b c : Int), But s H4 H6 → H6 s = some (.lst [.int a, .int b, .int c]) → H6 O = some (.tup (ops'.map V.int)) → H6 t = some (.tup [.int rw0.sz, .ref O, .bl false]) → ops'.length ≤ 2 → (∀ o ∈ ops', 0 ≤ o ∧ o < (rs.length : Int)) →
              ∃ (a b c : Int) (t' : Addr) (ops : List Int), [some (V.ref s), some (V.int many), some (V.ref R), some (V.ref TP), some (V.int (0 + (i : Int))), some (V.int k1), some (V.ref P0), (none : Option V)] = [some (V.ref s), some (V.int many), some (V.ref R), some (V.ref TP), some (V.int (0 + (i : Int))), some (V.int k1), some (V.ref P0), none] ∧ But s H (upd H6 R (.lst (ys ++ [.ref t]))) ∧ upd H6 R (.lst (ys ++ [.ref t])) s = some (.lst [.int a, .int b, .int c]) ∧ upd H6 R (.lst (ys ++ [.ref t])) R = some (.lst (ys ++ [.ref t'])) ∧ Each (RowT (upd H6 R (.lst (ys ++ [.ref t])))) (ys ++ [.ref t']) (rs ++ [⟨rw0.sz, ops, false⟩]) ∧ upd H6 R (.lst (ys ++ [.ref t])) TP = some (.lst (tp.map V.int)) ∧ ops.length ≤ 2 ∧ ∀ o ∈ ops, 0 ≤ o ∧ o < (rs.length : Int) := by
            intro H6 ops' O t a b c but6 e1 e2 e3 e4 e5
            have h2e := but6 _ _ nsR.symm h2d
            have h6e := but6 _ _ nsT.symm h6d
            have nRt : t ≠ R := (ne_of h2e e3 (by intro z; cases z)).symm
            have nRO : O ≠ R := (ne_of h2e e2 (by intro z; cases z)).symm
            exact ⟨a, b, c, t, ops', rfl, but_mut ((but.trans but4).trans but6) hR0, (upd_ne nsR).trans e1, upd_same, rows_snoc hE4 ((Ts.but but6 g1).trans (Ts.upd h2e)) ((upd_ne nRt).trans e3) ((upd_ne nRO).trans e2), (upd_ne nRT.symm).trans h6e, e4, e5⟩
          walk_at "s"
          · rename_i k2 a2 b2 c2 k20 k21 e
            have g2c : upd H4 s (.lst [.int a2, .int b2, .int c2]) P0 = some (.lst (ops.map V.int)) := (upd_ne nsP.symm).trans g2
            have h2c : upd H4 s (.lst [.int a2, .int b2, .int c2]) R = some (.lst ys) := (upd_ne nsR.symm).trans h2d
            refine ⟨P0, _, rfl, .inl ⟨SqL.of g2c, fun O hO => ?_⟩⟩
            walk_at "s"
            rename_i t ht
            have hO2 := hp_new (x := .tup [.int rw0.sz, .ref O, .bl false]) (upd_same : upd (upd H4 s (.lst [.int a2, .int b2, .int c2])) O (.tup (ops.map V.int)) O = _) ht
            exact fin _ ops O t a2 b2 c2 ((But.upd.trans' (same_new hO)).trans' (same_new ht)) (hp_new (hp_new upd_same hO) ht) hO2 upd_same g5 g6
          · rename_i k2 a2 b2 c2 k20 k21 e
            have g2c : upd H4 s (.lst [.int a2, .int b2, .int c2]) P0 = some (.lst (ops.map V.int)) := (upd_ne nsP.symm).trans g2
            have h2c : upd H4 s (.lst [.int a2, .int b2, .int c2]) R = some (.lst ys) := (upd_ne nsR.symm).trans h2d
            intro ns' p hpe hso hp
            have h2f := hp_new (x := .lst (ns'.map V.int)) h2c hp
            refine ⟨p, _, rfl, .inl ⟨SqL.of upd_same, fun O hO => ?_⟩⟩
            walk_at "s"
            rename_i t ht
            have hO2 := hp_new (x := .tup [.int rw0.sz, .ref O, .bl false]) (upd_same : upd (upd (upd H4 s (.lst [.int a2, .int b2, .int c2])) p (.lst (ns'.map V.int))) O (.tup (ns'.map V.int)) O = _) ht
            exact fin _ ns' O t a2 b2 c2 (((But.upd.trans' (same_new hp)).trans' (same_new hO)).trans' (same_new ht)) (hp_new (hp_new (hp_new upd_same hp) hO) ht) hO2 upd_same (by rw [hpe.length_eq]; exact g5) fun o ho => g6 o (hpe.mem_iff.mp ho)
        obtain ⟨a, b, c, t, ops, rfl, but5, f1, f2, f3, f4, f5, f6⟩ := hM
        walk_at "s"
        have hix : ixN (tp.map V.int).length k1 = some k1.toNat := by
          unfold ixN
          rw [if_pos k10, if_pos (by rw [List.length_map]; omega)]
        have hyl5 := f3.len
        rw [List.length_append, List.length_singleton, List.length_append, List.length_singleton] at hyl5
        refine ⟨TP, _, k1, k1.toNat, rfl, rfl, f4, hix, ?_⟩
        rw [show (((ys ++ [V.ref t]).length : Nat) : Int) - 1 = (rs.length : Int) from by rw [List.length_append, List.length_singleton]; omega]
        have h10 := hok.2.2.2
        refine hN _ _ ⟨_, _, _, a, b, c, ys ++ [.ref t], rs ++ [⟨rw0.sz, ops, false⟩], tp.set k1.toNat (rs.length : Int), rfl, but_mut but5 hT0, (upd_ne nsT).trans f1, (upd_ne nRT).trans f2, f3.mono fun _ _ => RowT.ts (Ts.upd f4), h4.snoc ⟨hok.1, f6, by simp, by show ops.length + 10 * rw0.sz.toNat ≤ 34; omega⟩, by rw [List.length_append, List.length_singleton]; omega, ?_, by rw [List.length_set]; exact h7, fun x hx => ?_⟩
        · show upd _ _ _ _ = _
          rw [upd_same, List.map_set]
        · rw [List.length_append, List.length_singleton]
          rcases List.mem_or_eq_of_mem_set hx with hx | hx
          · have := h8 x hx
            omega
          · omega
      · intro σ H3 hP
        obtain ⟨v4, v5, v6, a, b, c, ys, rs, tp, rfl, but, h1, h2, h3, h4, h5, h6, h7, h8⟩ := hP
        walk_at "s"
        rename_i t ht
        refine q t R TP _ rs tp (but.trans' (same_new ht)) hR0 hT0 upd_same ⟨ys, hp_new h2 ht, h3.mono fun _ _ => RowT.ts (Ts.of (same_new ht))⟩ h4 (by omega) (by omega) (hp_new h6 ht) h8 (by omega) ⟨a, b, c, hp_new h1 ht⟩
/-! ### rows and wanted nodes -/
theorem upd_none {H : Hp} {s r : Addr} {o : HO} (h : upd H s o r = none) : H r = none := by
  have n : r ≠ s := fun z => by
    rw [z, upd_same] at h
    cases h
  rw [upd_ne n] at h
  exact h
theorem ok_any (T : Top w K mg) : FnOk P w K mg base CX0 3 T.a_law_c_any T.d_law_c_any ["source"] spAny := by
  have G_law_pick := ok_pick (P := P) (w := w) (base := base) T
  have G_law_c_braid := ok_braid (P := P) (w := w) (base := base) T
  have G_law_c_net := ok_net (P := P) (w := w) (base := base) T
  have G_law_c_goals := ok_goals (P := P) (w := w) (base := base) T
  refine T.F_law_c_any.ok sc_law_c_any (fun vs H Q E h => ?_) (fun cdv A0 outer s0 H vs Q E hr h => ?_)
  · obtain ⟨s, rfl, _⟩ := h
    rfl
  · obtain ⟨s, rfl, ⟨a, b, c, hs⟩, q⟩ := h
    refine ⟨_, (pss_cons (ps_if (pt_cmpR op_eq (pe_call G_law_pick (hr.mono (by omega)) (by rfl) T.m_law_pick T.F_law_pick.kp T.b_law_pick .nil pass0 (pa_cons (pv 0) (pa_cons pe_int pa_nil))) pe_int (nomark _))
    (pss_one (ps_ret (pe_call G_law_c_braid (hr.mono (by omega)) (by rfl) T.m_law_c_braid T.F_law_c_braid.kp T.b_law_c_braid .nil pass0 (pa_cons (pv 0) pa_nil))))
    pss_nil)
    (pss_cons (ps_set (i := 1) sc_law_c_any.nd rfl (.inl rfl) (pe_call G_law_c_net (hr.mono (by omega)) (by rfl) T.m_law_c_net T.F_law_c_net.kp T.b_law_c_net .nil pass0 (pa_cons (pv 0) (pa_cons (pe_op op_add pe_int (pe_call G_law_pick (hr.mono (by omega)) (by rfl) T.m_law_pick T.F_law_pick.kp T.b_law_pick .nil pass0 (pa_cons (pv 0) (pa_cons pe_int pa_nil)))) pa_nil))))
    (pss_one (ps_ret (pe_tup (pa_cons (pv 1) (pa_cons (pe_call G_law_c_goals (hr.mono (by omega)) (by rfl) T.m_law_c_goals T.F_law_c_goals.kp T.b_law_c_goals .nil pass0 (pa_cons (pv 0) (pa_cons (pv 1) (pa_cons pe_int pa_nil)))) pa_nil))))))), ?_⟩
    walk_at "s"
    · rename_i k0 a0 b0 c0 k00 k01 e
      exact ⟨⟨a0, b0, c0, upd_same⟩, fun t r k H' rs ws but hr0 hk0 ht hR hW l0 l1 hk hin hl hs' => q t r k H' rs ws (But.upd.trans but) (upd_none hr0) (upd_none hk0) ht hR hW l0 l1 hk hin hl hs'⟩
    · rename_i k0 a0 b0 c0 k00 k01 e k1 a1 b1 c1 k10 k11
      refine ⟨s, 4 + k1, rfl, ⟨a1, b1, c1, upd_same⟩, by omega, by omega, fun r H1 rs but1 hr0 hs1 hR hW hl => ?_⟩
      have nsr : s ≠ r := ne_of_none upd_same hr0
      have hr00 := upd_none (upd_none hr0)
      walk_at "s"
      refine ⟨s, r, rs, rfl, hs1, hR, nsr, by omega, by omega, fun k H2 gs but2 hk0 hs2 hg hgl hin => ?_⟩
      have nsk : s ≠ k := by
        obtain ⟨x, y, z, hs1⟩ := hs1
        exact ne_of_none hs1 hk0
      obtain ⟨d1, d2, d3, hs1⟩ := hs1
      have bu : But s H H2 := ((But.upd.trans But.upd).trans but1).trans but2
      walk_at "s"
      rename_i t ht
      obtain ⟨ys, hy, hE⟩ := hR
      have sm := same_new (o := .tup [.ref r, .ref k]) ht
      exact q t r k _ rs gs (bu.trans' sm) hr00 (((But.upd.trans But.upd).trans but1).free nsk.symm hk0) upd_same ⟨ys, sm _ _ (but2 _ _ nsr.symm hy), hE.mono fun _ _ => RowT.ts ((Ts.but but2 hs1).trans (Ts.of sm))⟩ hW (by omega) (by omega) (sm _ _ hg) hin (by omega) (by
        obtain ⟨x, y, z, hs2⟩ := hs2
        exact ⟨x, y, z, sm _ _ hs2⟩)
end
end K15W
set_option Elab.async false
set_option linter.all false
set_option maxRecDepth 100000
/-! K19Plain: the least weight that makes wanted nodes: how such numbers add up. -/
namespace NF
open PySem PySem.Spec PyProof.Rows L2 TL LW NT FL
theorem flag_iff {rs : List Rw} (w : WF rs) {D : List Int} {n : Nat} {r : Rw} (e : rs[n]? = some r) : flag (flags rs D) (n : Int) = true ↔ (n : Int) ∈ D ∨ (r.src = false ∧ ∀ o ∈ r.ops, flag (flags rs D) o = true) := by
  rw [flags_at w e]
  unfold mk1
  rw [Bool.or_eq_true, Bool.and_eq_true, decide_eq_true_eq, List.all_eq_true, Bool.not_eq_true']
theorem made_ind {rs : List Rw} (w : WF rs) {D : List Int} {P : Nat → Prop} (h : ∀ (n : Nat) (r : Rw), rs[n]? = some r → ((n : Int) ∈ D ∨ (r.src = false ∧ ∀ o ∈ r.ops, P o.toNat)) → P n) : ∀ (n : Nat), n < rs.length → flag (flags rs D) (n : Int) = true → P n := by
  intro n
  induction n using Nat.strongRecOn with
  | _ n ih =>
    intro hl hf
    have e : rs[n]? = some rs[n] := List.getElem?_eq_getElem hl
    refine h n _ e ?_
    rcases (flag_iff w e).mp hf with k | ⟨k1, k2⟩
    · exact .inl k
    · refine .inr ⟨k1, fun o ho => ?_⟩
      obtain ⟨o0, o1⟩ := (w n _ e).2.1 o ho
      exact ih o.toNat (by omega) (by omega) (by rw [Int.toNat_of_nonneg o0]; exact k2 o ho)
theorem flags_mono {rs : List Rw} (w : WF rs) {D D' : List Int} (h : ∀ x ∈ D, x ∈ D') : ∀ (n : Nat), n < rs.length → flag (flags rs D) (n : Int) = true → flag (flags rs D') (n : Int) = true :=
  made_ind w (P := fun (n : Nat) => flag (flags rs D') (n : Int) = true) fun n r e k => (flag_iff w e).mpr (k.elim (fun k => .inl (h _ k)) fun k => .inr ⟨k.1, fun o ho => by
    obtain ⟨o0, o1⟩ := (w n r e).2.1 o ho
    have := k.2 o ho
    rw [Int.toNat_of_nonneg o0] at this
    exact this⟩)
/-- what a list of nodes weighs, each once -/
def WD (rs : List Rw) (D : List Int) : Int := ((List.range rs.length).map fun (n : Nat) => if (n : Int) ∈ D then szN rs n else 0).sum
theorem sum_add {α : Type} {g h : α → Int} : ∀ (l : List α), (l.map fun x => g x + h x).sum = (l.map g).sum + (l.map h).sum
  | [] => rfl
  | x :: l => by
    rw [List.map_cons, List.sum_cons, sum_add l, List.map_cons, List.sum_cons, List.map_cons, List.sum_cons]
    omega
theorem szN_nn {rs : List Rw} (w : WF rs) (n : Nat) : 0 ≤ szN rs n := by
  unfold szN
  cases e : rs[n]? with
  | none => exact Int.le_refl _
  | some r =>
    have := (w n r e).1
    show 0 ≤ r.sz
    omega
/-- the border of a set of nodes -/
def bord (rs : List Rw) (M : Nat → Bool) : List Int := ((List.range rs.length).filter fun n => M n && (srcB rs n || (opsB rs n).any fun o => !M o.toNat)).map fun (n : Nat) => (n : Int)
where
  srcB (rs : List Rw) (n : Nat) : Bool := match rs[n]? with | some r => r.src | none => false
  opsB (rs : List Rw) (n : Nat) : List Int := match rs[n]? with | some r => r.ops | none => []
theorem mem_bord {rs : List Rw} {M : Nat → Bool} {n : Nat} {r : Rw} (e : rs[n]? = some r) : (n : Int) ∈ bord rs M ↔ M n = true ∧ (r.src = true ∨ ∃ o ∈ r.ops, M o.toNat = false) := by
  have hl := (List.getElem?_eq_some_iff.mp e).1
  unfold bord
  rw [List.mem_map]
  constructor
  · rintro ⟨k, hk, ek⟩
    have : k = n := by omega
    subst this
    rw [List.mem_filter, Bool.and_eq_true, Bool.or_eq_true, List.any_eq_true] at hk
    obtain ⟨_, h1, h2⟩ := hk
    unfold bord.srcB bord.opsB at h2
    rw [e] at h2
    refine ⟨h1, h2.elim .inl fun ⟨o, ho, h⟩ => .inr ⟨o, ho, ?_⟩⟩
    simpa using h
  · rintro ⟨h1, h2⟩
    refine ⟨n, ?_, rfl⟩
    rw [List.mem_filter, Bool.and_eq_true, Bool.or_eq_true, List.any_eq_true]
    refine ⟨List.mem_range.mpr hl, h1, ?_⟩
    unfold bord.srcB bord.opsB
    rw [e]
    exact h2.elim .inl fun ⟨o, ho, h⟩ => .inr ⟨o, ho, by simpa using h⟩
theorem bord_made {rs : List Rw} (w : WF rs) {M : Nat → Bool} : ∀ (n : Nat), n < rs.length → M n = true → flag (flags rs (bord rs M)) (n : Int) = true := by
  intro n
  induction n using Nat.strongRecOn with
  | _ n ih =>
    intro hl hm
    have e : rs[n]? = some rs[n] := List.getElem?_eq_getElem hl
    by_cases k : (n : Int) ∈ bord rs M
    · exact (flag_iff w e).mpr (.inl k)
    · refine (flag_iff w e).mpr (.inr ?_)
      rw [mem_bord e] at k
      refine ⟨?_, fun o ho => ?_⟩
      · cases s : rs[n].src with
        | false => rfl
        | true => exact absurd ⟨hm, .inl s⟩ k
      · obtain ⟨o0, o1⟩ := (w n _ e).2.1 o ho
        have : M o.toNat = true := by
          cases s : M o.toNat with
          | true => rfl
          | false => exact absurd ⟨hm, .inr ⟨o, ho, s⟩⟩ k
        have := ih o.toNat (by omega) (by omega) this
        rw [Int.toNat_of_nonneg o0] at this
        exact this
/-- n is the least weight that makes all wanted nodes -/
def Mn (rs : List Rw) (ws : List Int) (n : Int) : Prop := (∃ D, Valid rs ws D ∧ WD rs D = n) ∧ ∀ D, Valid rs ws D → n ≤ WD rs D
theorem Mn.uniq {rs : List Rw} {ws : List Int} {n m : Int} (h : Mn rs ws n) (k : Mn rs ws m) : n = m := by
  obtain ⟨⟨D, v, e⟩, l⟩ := h
  obtain ⟨⟨D', v', e'⟩, l'⟩ := k
  have a := l D' v'
  have b := l' D v
  omega
theorem Mn.mono {rs : List Rw} {ws vs : List Int} {n m : Int} (s : ∀ x ∈ ws, x ∈ vs) (h : Mn rs ws n) (k : Mn rs vs m) : n ≤ m := by
  obtain ⟨⟨D, v, e⟩, _⟩ := k
  rw [← e]
  exact h.2 D fun x hx => v x (s x hx)
theorem Mn.mem {rs : List Rw} {ws vs : List Int} {n m : Int} (s : ∀ x, x ∈ ws ↔ x ∈ vs) (h : Mn rs ws n) (k : Mn rs vs m) : n = m := by
  have a := h.mono (fun x => (s x).mp) k
  have b := k.mono (fun x => (s x).mpr) h
  omega
/-- two numbers together -/
theorem Mn.sub {rs : List Rw} (w : WF rs) {as bs us is : List Int} {a b u i : Int} (hin : ∀ x, x ∈ as ∨ x ∈ bs → 0 ≤ x ∧ x < (rs.length : Int)) (hu : ∀ x ∈ us, x ∈ as ∨ x ∈ bs) (hi : ∀ x ∈ is, x ∈ as ∧ x ∈ bs)
    (A : Mn rs as a) (B : Mn rs bs b) (U : Mn rs us u) (I : Mn rs is i) : u + i ≤ a + b := by
  obtain ⟨⟨D1, v1, e1⟩, _⟩ := A
  obtain ⟨⟨D2, v2, e2⟩, _⟩ := B
  have q1 := U.2 (bord rs fun (n : Nat) => flag (flags rs D1) (n : Int) || flag (flags rs D2) (n : Int)) fun x hx => by
    obtain ⟨x0, x1⟩ := hin x (hu x hx)
    have := bord_made w (M := fun (n : Nat) => flag (flags rs D1) (n : Int) || flag (flags rs D2) (n : Int)) x.toNat (by omega) (by
      show (_ || _) = true
      rw [Int.toNat_of_nonneg x0, Bool.or_eq_true]
      exact (hu x hx).elim (fun h => .inl (v1 x h)) fun h => .inr (v2 x h))
    rw [Int.toNat_of_nonneg x0] at this
    exact this
  have q2 := I.2 (bord rs fun (n : Nat) => flag (flags rs D1) (n : Int) && flag (flags rs D2) (n : Int)) fun x hx => by
    obtain ⟨x0, x1⟩ := hin x (.inl (hi x hx).1)
    have := bord_made w (M := fun (n : Nat) => flag (flags rs D1) (n : Int) && flag (flags rs D2) (n : Int)) x.toNat (by omega) (by
      show (_ && _) = true
      rw [Int.toNat_of_nonneg x0, Bool.and_eq_true]
      exact ⟨v1 x (hi x hx).1, v2 x (hi x hx).2⟩)
    rw [Int.toNat_of_nonneg x0] at this
    exact this
  have q3 : WD rs (bord rs fun (n : Nat) => flag (flags rs D1) (n : Int) || flag (flags rs D2) (n : Int)) + WD rs (bord rs fun (n : Nat) => flag (flags rs D1) (n : Int) && flag (flags rs D2) (n : Int)) ≤ WD rs D1 + WD rs D2 := by
    unfold WD
    rw [← sum_add, ← sum_add]
    refine sum_le_sum fun n hn => ?_
    have hl := List.mem_range.mp hn
    have e : rs[n]? = some rs[n] := List.getElem?_eq_getElem hl
    have s := szN_nn w n
    have o0 : ∀ o ∈ rs[n].ops, ((o.toNat : Nat) : Int) = o := fun o ho => Int.toNat_of_nonneg ((w n _ e).2.1 o ho).1
    have d1 : flag (flags rs D1) (n : Int) = true → (rs[n].src = true ∨ ∃ o ∈ rs[n].ops, flag (flags rs D1) o = false) → (n : Int) ∈ D1 := fun h1 h2 => by
      rcases (flag_iff w e).mp h1 with k | ⟨k1, k2⟩
      · exact k
      · rcases h2 with h2 | ⟨o, ho, h2⟩
        · rw [k1] at h2
          cases h2
        · rw [k2 o ho] at h2
          cases h2
    have d2 : flag (flags rs D2) (n : Int) = true → (rs[n].src = true ∨ ∃ o ∈ rs[n].ops, flag (flags rs D2) o = false) → (n : Int) ∈ D2 := fun h1 h2 => by
      rcases (flag_iff w e).mp h1 with k | ⟨k1, k2⟩
      · exact k
      · rcases h2 with h2 | ⟨o, ho, h2⟩
        · rw [k1] at h2
          cases h2
        · rw [k2 o ho] at h2
          cases h2
    have bu : (n : Int) ∈ bord rs (fun (n : Nat) => flag (flags rs D1) (n : Int) || flag (flags rs D2) (n : Int)) → (flag (flags rs D1) (n : Int) = true ∨ flag (flags rs D2) (n : Int) = true) ∧ (rs[n].src = true ∨ ∃ o ∈ rs[n].ops, flag (flags rs D1) o = false ∧ flag (flags rs D2) o = false) := fun h => by
      obtain ⟨h1, h2⟩ := (mem_bord e).mp h
      refine ⟨by simpa using h1, h2.elim .inl fun ⟨o, ho, h⟩ => .inr ⟨o, ho, ?_⟩⟩
      rw [o0 o ho, Bool.or_eq_false_iff] at h
      exact h
    have bi : (n : Int) ∈ bord rs (fun (n : Nat) => flag (flags rs D1) (n : Int) && flag (flags rs D2) (n : Int)) → (flag (flags rs D1) (n : Int) = true ∧ flag (flags rs D2) (n : Int) = true) ∧ (rs[n].src = true ∨ ∃ o ∈ rs[n].ops, flag (flags rs D1) o = false ∨ flag (flags rs D2) o = false) := fun h => by
      obtain ⟨h1, h2⟩ := (mem_bord e).mp h
      refine ⟨by simpa using h1, h2.elim .inl fun ⟨o, ho, h⟩ => .inr ⟨o, ho, ?_⟩⟩
      rw [o0 o ho, Bool.and_eq_false_iff] at h
      exact h
    have one : (n : Int) ∈ bord rs (fun (n : Nat) => flag (flags rs D1) (n : Int) || flag (flags rs D2) (n : Int)) → (n : Int) ∈ D1 ∨ (n : Int) ∈ D2 := fun h => by
      obtain ⟨h1, h2⟩ := bu h
      rcases h1 with h1 | h1
      · exact .inl (d1 h1 (h2.elim .inl fun ⟨o, ho, k, _⟩ => .inr ⟨o, ho, k⟩))
      · exact .inr (d2 h1 (h2.elim .inl fun ⟨o, ho, _, k⟩ => .inr ⟨o, ho, k⟩))
    have two : (n : Int) ∈ bord rs (fun (n : Nat) => flag (flags rs D1) (n : Int) && flag (flags rs D2) (n : Int)) → (n : Int) ∈ D1 ∨ (n : Int) ∈ D2 := fun h => by
      obtain ⟨⟨h1, h1'⟩, h2⟩ := bi h
      rcases h2 with h2 | ⟨o, ho, h2 | h2⟩
      · exact .inl (d1 h1 (.inl h2))
      · exact .inl (d1 h1 (.inr ⟨o, ho, h2⟩))
      · exact .inr (d2 h1' (.inr ⟨o, ho, h2⟩))
    have both : (n : Int) ∈ bord rs (fun (n : Nat) => flag (flags rs D1) (n : Int) || flag (flags rs D2) (n : Int)) → (n : Int) ∈ bord rs (fun (n : Nat) => flag (flags rs D1) (n : Int) && flag (flags rs D2) (n : Int)) → (n : Int) ∈ D1 ∧ (n : Int) ∈ D2 := fun h k => by
      obtain ⟨_, h2⟩ := bu h
      obtain ⟨⟨h1, h1'⟩, _⟩ := bi k
      exact ⟨d1 h1 (h2.elim .inl fun ⟨o, ho, k, _⟩ => .inr ⟨o, ho, k⟩), d2 h1' (h2.elim .inl fun ⟨o, ho, _, k⟩ => .inr ⟨o, ho, k⟩)⟩
    by_cases c1 : (n : Int) ∈ bord rs (fun (n : Nat) => flag (flags rs D1) (n : Int) || flag (flags rs D2) (n : Int)) <;>
      by_cases c2 : (n : Int) ∈ bord rs (fun (n : Nat) => flag (flags rs D1) (n : Int) && flag (flags rs D2) (n : Int))
    · obtain ⟨x, y⟩ := both c1 c2
      rw [if_pos c1, if_pos c2, if_pos x, if_pos y]
      exact Int.le_refl _
    · rw [if_pos c1, if_neg c2]
      rcases one c1 with x | x
      · rw [if_pos x]
        split <;> omega
      · rw [if_pos x]
        split <;> omega
    · rw [if_neg c1, if_pos c2]
      rcases two c2 with x | x
      · rw [if_pos x]
        split <;> omega
      · rw [if_pos x]
        split <;> omega
    · rw [if_neg c1, if_neg c2]
      split <;> split <;> omega
  omega
theorem WD_one {rs : List Rw} {n : Nat} (h : n < rs.length) : WD rs [(n : Int)] = szN rs n := by
  unfold WD
  have := sum_part (w := szN rs) (D := [n]) (L := List.range rs.length) (List.singleton_sublist.mpr (List.mem_range.mpr h)) List.nodup_range
  rw [show [n].map (fun (k : Nat) => (k : Int)) = [(n : Int)] from rfl] at this
  rw [this]
  simp
/-- one node more -/
theorem Mn.one {rs : List Rw} (w : WF rs) {ws vs : List Int} {x : Int} {n m : Int} (hin : InR rs ws) (h0 : 0 ≤ x) (h1 : x < (rs.length : Int)) (hv : ∀ y ∈ vs, y ∈ ws ∨ y = x) (h : Mn rs ws n) (k : Mn rs vs m) : m ≤ n + szN rs x.toNat := by
  obtain ⟨⟨D, v, e⟩, _⟩ := h
  have q := k.2 (D ++ [x]) fun y hy => by
    have hx : flag (flags rs (D ++ [x])) x = true := by
      have e : rs[x.toNat]? = some rs[x.toNat] := List.getElem?_eq_getElem (by omega)
      have := (flag_iff w (D := D ++ [x]) e).mpr (.inl (by rw [Int.toNat_of_nonneg h0]; simp))
      rw [Int.toNat_of_nonneg h0] at this
      exact this
    rcases hv y hy with hy | hy
    · obtain ⟨y0, y1⟩ := hin y hy
      have := flags_mono w (D := D) (D' := D ++ [x]) (fun z hz => List.mem_append_left _ hz) y.toNat (by omega) (by rw [Int.toNat_of_nonneg y0]; exact v y hy)
      rw [Int.toNat_of_nonneg y0] at this
      exact this
    · rw [hy]
      exact hx
  have q2 : WD rs (D ++ [x]) ≤ WD rs D + WD rs [x] := by
    unfold WD
    rw [← sum_add]
    refine sum_le_sum fun i hi => ?_
    have s := szN_nn w i
    by_cases c1 : (i : Int) ∈ D
    · rw [if_pos c1, if_pos (List.mem_append_left _ c1)]
      split <;> omega
    · by_cases c2 : (i : Int) ∈ [x]
      · rw [if_neg c1, if_pos c2, if_pos (List.mem_append_right _ c2)]
        omega
      · rw [if_neg c1, if_neg c2, if_neg (fun z => (List.mem_append.mp z).elim c1 c2)]
        omega
  have q3 := WD_one (rs := rs) (n := x.toNat) (by omega)
  rw [Int.toNat_of_nonneg h0] at q3
  omega
/-- a greatest flow is the least weight -/
theorem mn_of {rs : List Rw} (w : WF rs) {ws : List Int} (hw : InR rs ws) {f : Nat → Int} (F : Flow (arcs rs ws) (SS rs) (TT rs) f) {R : Nat → Bool} (hS : R (SS rs) = true) (hT : R (TT rs) = false)
    (cl : ∀ i fw, i < (arcs rs ws).length → R (begP (arcs rs ws) i fw) = true → pass (arcs rs ws) f i fw → R (endP (arcs rs ws) i fw) = true) :
    Mn rs ws (div (arcs rs ws) f (SS rs)) ∧ Valid rs ws (((lives rs ws).filter fun n => R (2 * n) && !R (2 * n + 1)).map fun (n : Nat) => (n : Int)) ∧ WD rs (((lives rs ws).filter fun n => R (2 * n) && !R (2 * n + 1)).map fun (n : Nat) => (n : Int)) = div (arcs rs ws) f (SS rs) := by
  obtain ⟨s1, s2⟩ := strong w hw F hS hT cl
  have e : WD rs (((lives rs ws).filter fun n => R (2 * n) && !R (2 * n + 1)).map fun (n : Nat) => (n : Int)) = div (arcs rs ws) f (SS rs) := by
    rw [s2]
    exact sum_part (List.Sublist.trans List.filter_sublist List.filter_sublist) List.nodup_range
  refine ⟨⟨⟨_, s1, e⟩, fun D v => Int.le_trans (weak w F v) ?_⟩, s1, e⟩
  unfold WD lives
  rw [sum_filter]
  refine sum_le_sum fun n _ => ?_
  have := szN_nn w n
  split <;> split <;> omega
end NF
set_option Elab.async false
set_option linter.all false
set_option maxRecDepth 100000
/-! K19P2: the earliest least set. -/
namespace NF
open PySem PySem.Spec PyProof.Rows L2 TL LW NT FL
theorem sum_lt {α : Type} {g h : α → Int} {k : α} : ∀ {l : List α}, (∀ x ∈ l, g x ≤ h x) → k ∈ l → g k < h k → (l.map g).sum < (l.map h).sum
  | [], _, m, _ => by cases m
  | x :: l, a, m, lt => by
    rw [List.map_cons, List.sum_cons, List.map_cons, List.sum_cons]
    have hx := a x List.mem_cons_self
    have hl : ∀ y ∈ l, g y ≤ h y := fun y hy => a y (List.mem_cons_of_mem _ hy)
    rcases List.mem_cons.mp m with e | m
    · rw [← e] at hx ⊢
      have := sum_le_sum hl
      omega
    · have := sum_lt hl m lt
      omega
theorem sm_lt {g h : Nat → Int} {k : Nat} : ∀ {n : Nat}, (∀ i, i < n → g i ≤ h i) → k < n → g k < h k → sm g n < sm h n
  | 0, _, m, _ => by omega
  | n + 1, a, m, lt => by
    show sm g n + g n < sm h n + h n
    have hn := a n (by omega)
    by_cases e : k = n
    · have := sm_le (g := g) (h := h) (n := n) fun i hi => a i (by omega)
      rw [e] at lt
      omega
    · have := sm_lt (g := g) (h := h) (k := k) (n := n) (fun i hi => a i (by omega)) (by omega) lt
      omega
/-- an arc that passes leaves the side of a set that makes all wanted nodes: that set weighs more than what flows -/
theorem weak_strict {rs : List Rw} (w : WF rs) {ws D : List Int} {f : Nat → Int} (F : Flow (arcs rs ws) (SS rs) (TT rs) f) (V : Valid rs ws D) {i0 : Nat} {fw : Bool} (hi0 : i0 < (arcs rs ws).length) (hb : RD rs ws D (begP (arcs rs ws) i0 fw) = true) (he : RD rs ws D (endP (arcs rs ws) i0 fw) = false) (hp : pass (arcs rs ws) f i0 fw) :
    div (arcs rs ws) f (SS rs) < ((lives rs ws).map fun (n : Nat) => if (n : Int) ∈ D then szN rs n else 0).sum := by
  have lt : ∀ {n : Nat} {r : Rw}, rs[n]? = some r → n < rs.length := fun e => (List.getElem?_eq_some_iff.mp e).1
  have c := cross F (R := RD rs ws D) RD_S RD_T (arcs_pts w) (by unfold SS; omega)
  rw [c]
  have fin : ∀ i, i < (arcs rs ws).length → RD rs ws D (ar (arcs rs ws) i).lo = true → RD rs ws D (ar (arcs rs ws) i).hi = false → ∃ c, (ar (arcs rs ws) i).cap = some c := fun i hi h1 h2 => by
    rcases mem_arcs w (ar_mem hi) with ⟨e, l, h⟩ | ⟨e, l, s, h⟩ | ⟨e, l, o, l2, k, h⟩ | ⟨e, l, s, h⟩
    · rw [h]
      exact ⟨_, rfl⟩
    · rw [h] at h2
      have h2 : RD rs ws D (2 * _) = false := h2
      rw [RD_in e, l, s] at h2
      simp at h2
    · rw [h] at h1 h2
      have h1 : RD rs ws D (2 * _ + 1) = true := h1
      have h2 : RD rs ws D (2 * _) = false := h2
      rw [RD_out (by have := lt e; omega), Bool.and_eq_true] at h1
      rw [RD_in e, l, Bool.true_and, Bool.or_eq_false_iff] at h2
      have := List.any_eq_false.mp h2.2 _ o
      rw [h1.2] at this
      exact absurd rfl this
    · rw [h] at h1
      have h1 : RD rs ws D (2 * _ + 1) = true := h1
      rw [RD_out (lt e), V _ s] at h1
      simp at h1
  have s1 : sm (fun i => (if RD rs ws D (ar (arcs rs ws) i).lo = true then f i else 0) - (if RD rs ws D (ar (arcs rs ws) i).hi = true then f i else 0)) (arcs rs ws).length < sm (fun i => wt (RD rs ws D) (ar (arcs rs ws) i)) (arcs rs ws).length := by
    refine sm_lt (k := i0) (fun i hi => ?_) hi0 ?_
    · have p := F.pos i hi
      unfold wt
      cases h1 : RD rs ws D (ar (arcs rs ws) i).lo with
      | false =>
        simp only [Bool.false_eq_true, if_false, false_and]
        split <;> omega
      | true =>
        rw [if_pos rfl]
        cases h2 : RD rs ws D (ar (arcs rs ws) i).hi with
        | true =>
          rw [if_pos rfl, if_neg (by simp)]
          omega
        | false =>
          rw [if_neg (by decide), if_pos ⟨rfl, rfl⟩]
          obtain ⟨c, hc⟩ := fin i hi h1 h2
          have := F.cap i hi c hc
          rw [hc]
          show f i - 0 ≤ c
          omega
    · cases fw with
      | true =>
        have h1 : RD rs ws D (ar (arcs rs ws) i0).lo = true := hb
        have h2 : RD rs ws D (ar (arcs rs ws) i0).hi = false := he
        obtain ⟨c, hc⟩ := fin i0 hi0 h1 h2
        have hp : ∀ c, (ar (arcs rs ws) i0).cap = some c → f i0 < c := hp
        have := hp c hc
        unfold wt
        simp only [h1, h2, hc]
        show f i0 - 0 < c
        omega
      | false =>
        have h1 : RD rs ws D (ar (arcs rs ws) i0).hi = true := hb
        have h2 : RD rs ws D (ar (arcs rs ws) i0).lo = false := he
        have hp : 0 < f i0 := hp
        unfold wt
        simp only [h1, h2]
        show 0 - f i0 < 0
        omega
  refine Int.lt_of_lt_of_le s1 ?_
  rw [sm_list, sum_arcs]
  refine sum_le_sum fun n hn => ?_
  unfold lives at hn
  rw [List.mem_filter, List.mem_range] at hn
  have e : rs[n]? = some rs[n] := List.getElem?_eq_getElem hn.1
  have sz := szN_nn w n
  by_cases k : RD rs ws D (2 * n) = true ∧ RD rs ws D (2 * n + 1) = false
  · rw [if_pos k]
    have l : liv rs ws (n : Int) = true := hn.2
    obtain ⟨k1, k2⟩ := k
    rw [RD_in e, l, Bool.true_and, any_not] at k1
    rw [RD_out hn.1, l, Bool.true_and] at k2
    have k2 : flag (flags rs D) (n : Int) = true := by simpa using k2
    have : (n : Int) ∈ D := by
      rcases (flag_iff w e).mp k2 with q | ⟨q1, q2⟩
      · exact q
      · rw [q1, Bool.false_or, List.all_eq_true.mpr q2] at k1
        cases k1
    rw [if_pos this]
    exact Int.le_refl _
  · rw [if_neg k]
    split <;> omega
/-- the law's own flow has ended: n flows, the points qs are reached -/
structure Fend (rs : List Rw) (ws : List Int) (n : Int) (qs : List Nat) : Prop where
  ex : ∃ f : Nat → Int, Flow (arcs rs ws) (SS rs) (TT rs) f ∧ n = div (arcs rs ws) f (SS rs) ∧
    (∀ i fw, i < (arcs rs ws).length → (begP (arcs rs ws) i fw = SS rs ∨ begP (arcs rs ws) i fw ∈ qs) → pass (arcs rs ws) f i fw → (endP (arcs rs ws) i fw = SS rs ∨ endP (arcs rs ws) i fw ∈ qs)) ∧
    (∀ (j q : Nat), qs[j]? = some q → ∃ i fw, i < (arcs rs ws).length ∧ endP (arcs rs ws) i fw = q ∧ pass (arcs rs ws) f i fw ∧ (begP (arcs rs ws) i fw = SS rs ∨ ∃ j', j' < j ∧ qs[j']? = some (begP (arcs rs ws) i fw)))
  noT : TT rs ∉ qs
  noS : SS rs ∉ qs
  pts : ∀ q ∈ qs, q / 2 < rs.length ∧ liv rs ws ((q / 2 : Nat) : Int) = true
/-- the earliest least set -/
def Ear (rs : List Rw) (ws : List Int) (qs : List Nat) : List Int := ((lives rs ws).filter fun n => decide (2 * n ∈ qs) && !decide (2 * n + 1 ∈ qs)).map fun (n : Nat) => (n : Int)
theorem Fend.mn {rs : List Rw} (w : WF rs) {ws : List Int} (hw : InR rs ws) {n : Int} {qs : List Nat} (h : Fend rs ws n qs) : Mn rs ws n ∧ Valid rs ws (Ear rs ws qs) ∧ WD rs (Ear rs ws qs) = n := by
  obtain ⟨⟨f, F, e, cl, _⟩, nT, nS⟩ := h
  rw [e]
  have := mn_of w hw F (R := fun p => decide (p = SS rs ∨ p ∈ qs)) (by simp) (by
    rw [decide_eq_false]
    rintro (z | z)
    · unfold SS TT at z
      omega
    · exact nT z) fun i fw hi hb hp => by
      rw [decide_eq_true_eq] at hb ⊢
      exact cl i fw hi hb hp
  have e2 : ((lives rs ws).filter fun n => decide (2 * n = SS rs ∨ 2 * n ∈ qs) && !decide (2 * n + 1 = SS rs ∨ 2 * n + 1 ∈ qs)) = (lives rs ws).filter fun n => decide (2 * n ∈ qs) && !decide (2 * n + 1 ∈ qs) := by
    refine List.filter_congr fun n hn => ?_
    unfold lives at hn
    have hl := List.mem_range.mp (List.mem_filter.mp hn).1
    have a : (2 * n = SS rs ∨ 2 * n ∈ qs) ↔ 2 * n ∈ qs := ⟨fun z => z.elim (fun z => by unfold SS at z; omega) id, .inr⟩
    have b : (2 * n + 1 = SS rs ∨ 2 * n + 1 ∈ qs) ↔ 2 * n + 1 ∈ qs := ⟨fun z => z.elim (fun z => by unfold SS at z; omega) id, .inr⟩
    rw [decide_eq_decide.mpr a, decide_eq_decide.mpr b]
  unfold Ear
  rw [← e2]
  exact this
theorem Fend.inside {rs : List Rw} (w : WF rs) {ws : List Int} {n : Int} {qs : List Nat} (h : Fend rs ws n qs) {D : List Int} (V : Valid rs ws D) (e : WD rs D = n) : ∀ (j q : Nat), qs[j]? = some q → RD rs ws D q = true := by
  obtain ⟨⟨f, F, en, cl, re⟩, nT, nS⟩ := h
  intro j
  induction j using Nat.strongRecOn with
  | _ j ih =>
    intro q hq
    obtain ⟨i, fw, hi, he, hp, hb⟩ := re j q hq
    have hb : RD rs ws D (begP (arcs rs ws) i fw) = true := by
      rcases hb with hb | ⟨j', hj, hb⟩
      · rw [hb]
        exact RD_S
      · exact ih j' hj _ hb
    rw [← he]
    cases c : RD rs ws D (endP (arcs rs ws) i fw) with
    | true => rfl
    | false =>
      have := weak_strict w F V hi hb c hp
      have q2 : ((lives rs ws).map fun (n : Nat) => if (n : Int) ∈ D then szN rs n else 0).sum ≤ WD rs D := by
        unfold WD lives
        rw [sum_filter]
        refine sum_le_sum fun n _ => ?_
        have := szN_nn w n
        split <;> split <;> omega
      omega
/-- what any least set makes of the living nodes the earliest one makes -/
theorem Fend.all {rs : List Rw} (w : WF rs) {ws : List Int} {n : Int} {qs : List Nat} (h : Fend rs ws n qs) {D : List Int} (V : Valid rs ws D) (e : WD rs D = n) : ∀ m, m < rs.length → liv rs ws (m : Int) = true → flag (flags rs D) (m : Int) = true → flag (flags rs (Ear rs ws qs)) (m : Int) = true := by
  have ins := h.inside w V e
  obtain ⟨⟨f, F, en, cl, re⟩, nT, nS⟩ := h
  have ex : ∀ m, m < rs.length → liv rs ws (m : Int) = true → flag (flags rs (Ear rs ws qs)) (m : Int) = false → 2 * m + 1 ∈ qs := by
    intro m
    induction m using Nat.strongRecOn with
    | _ m ih =>
      intro hl lv hf
      have er : rs[m]? = some rs[m] := List.getElem?_eq_getElem hl
      have hn : ¬ ((m : Int) ∈ Ear rs ws qs ∨ (rs[m].src = false ∧ ∀ o ∈ rs[m].ops, flag (flags rs (Ear rs ws qs)) o = true)) := fun z => by
        rw [(flag_iff w er).mpr z] at hf
        cases hf
      have en2 : 2 * m ∈ qs := by
        cases s : rs[m].src with
        | true =>
          obtain ⟨i, hi, ei⟩ := mem_ar (arc_mem w (Arc.src (ws := ws) er lv s rfl))
          have := cl i true hi (.inl (by show (ar _ i).lo = _; rw [ei]; rfl)) (by
            show ∀ c, (ar _ i).cap = some c → _
            rw [ei]
            intro c hc
            cases hc)
          have ee : endP (arcs rs ws) i true = 2 * m := by
            show (ar _ i).hi = _
            rw [ei]
          rw [ee] at this
          exact this.elim (fun z => by unfold SS at z; omega) id
        | false =>
          obtain ⟨o, ho, hfo⟩ : ∃ o ∈ rs[m].ops, flag (flags rs (Ear rs ws qs)) o = false := by
            refine Classical.byContradiction fun z => hn (.inr ⟨s, fun o ho => ?_⟩)
            cases c : flag (flags rs (Ear rs ws qs)) o with
            | true => rfl
            | false => exact absurd ⟨o, ho, c⟩ z
          obtain ⟨o0, o1⟩ := (w m _ er).2.1 o ho
          have ek : ((o.toNat : Nat) : Int) = o := Int.toNat_of_nonneg o0
          have lo : liv rs ws o = true := by
            rw [liv_ops w er lv ho]
            cases c : bar rs o with
            | false => rfl
            | true =>
              rw [← ek] at c hfo
              rw [bar_made w c] at hfo
              cases hfo
          have h2 := ih o.toNat (by omega) (by omega) (by rw [ek]; exact lo) (by rw [ek]; exact hfo)
          obtain ⟨i, hi, ei⟩ := mem_ar (arc_mem w (Arc.op (ws := ws) (k := o.toNat) er lv (by rw [ek]; exact ho) (by rw [ek]; exact lo) (by omega) rfl))
          have := cl i true hi (.inr (by show (ar _ i).lo ∈ _; rw [ei]; exact h2)) (by
            show ∀ c, (ar _ i).cap = some c → _
            rw [ei]
            intro c hc
            cases hc)
          have ee : endP (arcs rs ws) i true = 2 * m := by
            show (ar _ i).hi = _
            rw [ei]
          rw [ee] at this
          exact this.elim (fun z => by unfold SS at z; omega) id
      refine Classical.byContradiction fun z => hn (.inl ?_)
      unfold Ear
      refine List.mem_map.mpr ⟨m, List.mem_filter.mpr ⟨List.mem_filter.mpr ⟨List.mem_range.mpr hl, lv⟩, ?_⟩, rfl⟩
      rw [decide_eq_true en2, decide_eq_false z]
      rfl
  intro m hl lv hf
  cases c : flag (flags rs (Ear rs ws qs)) (m : Int) with
  | true => rfl
  | false =>
    obtain ⟨j, hj, ej⟩ := List.getElem_of_mem (ex m hl lv c)
    have := ins j _ (List.getElem?_eq_some_iff.mpr ⟨hj, ej⟩)
    rw [RD_out hl, hf] at this
    simp at this
/-- a node more costs nothing exactly if the earliest least set makes it -/
theorem Fend.free {rs : List Rw} (w : WF rs) {ws vs : List Int} (hw : InR rs ws) {n m x : Int} {qs : List Nat} (h : Fend rs ws n qs) (h0 : 0 ≤ x) (h1 : x < (rs.length : Int)) (hv : ∀ y, y ∈ vs ↔ y ∈ ws ∨ y = x) (k : Mn rs vs m) : m = n ↔ flag (flags rs (Ear rs ws qs)) x = true := by
  obtain ⟨M, V, e⟩ := h.mn w hw
  have ex : ((x.toNat : Nat) : Int) = x := Int.toNat_of_nonneg h0
  constructor
  · intro em
    obtain ⟨⟨D, VD, eD⟩, _⟩ := k
    have VD2 : Valid rs ws D := fun y hy => VD y ((hv y).mpr (.inl hy))
    have eD2 : WD rs D = n := eD.trans em
    have inl : ∀ i, i < rs.length → (i : Int) ∈ D → liv rs ws (i : Int) = true := fun i hi hd => by
      cases c : liv rs ws (i : Int) with
      | true => rfl
      | false =>
        obtain ⟨⟨f, F, en, _⟩, _⟩ := id h
        have a := weak w F VD2
        have b : ((lives rs ws).map fun (n : Nat) => if (n : Int) ∈ D then szN rs n else 0).sum < WD rs D := by
          unfold WD lives
          rw [sum_filter]
          refine sum_lt (k := i) (fun n _ => ?_) (List.mem_range.mpr hi) ?_
          · have := szN_nn w n
            split <;> split <;> omega
          · have er : rs[i]? = some rs[i] := List.getElem?_eq_getElem hi
            have := (w i _ er).1
            show (if liv rs ws (i : Int) = true then _ else 0) < (if (i : Int) ∈ D then szN rs i else 0)
            rw [c, if_neg (by decide), if_pos hd]
            unfold szN
            rw [er]
            show 0 < rs[i].sz
            omega
        omega
    have := made_ind w (D := D) (P := fun i => flag (flags rs (Ear rs ws qs)) (i : Int) = true) (fun i r er z => by
      have hi := (List.getElem?_eq_some_iff.mp er).1
      rcases z with z | ⟨z1, z2⟩
      · exact h.all w VD2 eD2 i hi (inl i hi z) ((flag_iff w er).mpr (.inl z))
      · refine (flag_iff w er).mpr (.inr ⟨z1, fun o ho => ?_⟩)
        have := z2 o ho
        rw [Int.toNat_of_nonneg ((w i r er).2.1 o ho).1] at this
        exact this) x.toNat (by omega) (by rw [ex]; exact VD x ((hv x).mpr (.inr rfl)))
    rw [ex] at this
    exact this
  · intro hf
    have a := k.2 (Ear rs ws qs) fun y hy => ((hv y).mp hy).elim (V y) fun z => by rw [z]; exact hf
    have b := M.mono (fun y hy => (hv y).mpr (.inl hy)) k
    omega
/-- what is free stays free -/
theorem Fend.stay {rs : List Rw} (w : WF rs) {ws es vs fr : List Int} (hw : InR rs ws) {n a m : Int} {qs : List Nat} (h : Fend rs ws n qs) (hin : InR rs es) (hs : ∀ x ∈ ws, x ∈ es) (hfr : ∀ x ∈ fr, (0 ≤ x ∧ x < (rs.length : Int)) ∧ flag (flags rs (Ear rs ws qs)) x = true) (hv : ∀ y, y ∈ vs ↔ y ∈ es ∨ y ∈ fr) (A : Mn rs es a) (k : Mn rs vs m) : m = a := by
  obtain ⟨M, V, e⟩ := h.mn w hw
  have B : Mn rs (ws ++ fr) n := ⟨⟨Ear rs ws qs, fun y hy => (List.mem_append.mp hy).elim (V y) fun z => (hfr y z).2, e⟩, fun D v => M.2 D fun y hy => v y (List.mem_append_left _ hy)⟩
  have s := Mn.sub w (as := es) (bs := ws ++ fr) (us := vs) (is := ws) (fun x hx => hx.elim (hin x) fun z => (List.mem_append.mp z).elim (hw x) fun z => (hfr x z).1) (fun x hx => ((hv x).mp hx).imp id fun z => List.mem_append_right _ z) (fun x hx => ⟨hs x hx, List.mem_append_left _ hx⟩) A B k M
  have t := A.mono (fun x hx => (hv x).mpr (.inl hx)) k
  omega
end NF
set_option Elab.async false
set_option linter.all false
set_option maxRecDepth 100000
/-! K19P3: a flow held in a dict over pairs of nodes. -/
namespace NF
open PySem PySem.Spec PyProof.Rows L2 TL LW NT FL
/-- where an arc's amount stands -/
def keyA (rs : List Rw) (a : Ar) : Int × Int := (if a.lo = SS rs then -1 else ((a.lo / 2 : Nat) : Int), if a.hi = TT rs then -1 else ((a.hi / 2 : Nat) : Int))
theorem key_node {rs : List Rw} {n : Nat} {c : Option Int} (h : n < rs.length) : keyA rs ⟨2 * n, 2 * n + 1, c⟩ = ((n : Int), (n : Int)) := by
  unfold keyA SS TT
  show ((if 2 * n = 2 * rs.length then (-1 : Int) else _), (if 2 * n + 1 = 2 * rs.length + 1 then (-1 : Int) else _)) = _
  rw [if_neg (by omega), if_neg (by omega), show 2 * n / 2 = n from by omega, show (2 * n + 1) / 2 = n from by omega]
theorem key_op {rs : List Rw} {n k : Nat} {c : Option Int} (h : n < rs.length) (hk : k < rs.length) : keyA rs ⟨2 * k + 1, 2 * n, c⟩ = ((k : Int), (n : Int)) := by
  unfold keyA SS TT
  show ((if 2 * k + 1 = 2 * rs.length then (-1 : Int) else _), (if 2 * n = 2 * rs.length + 1 then (-1 : Int) else _)) = _
  rw [if_neg (by omega), if_neg (by omega), show 2 * n / 2 = n from by omega, show (2 * k + 1) / 2 = k from by omega]
theorem key_src {rs : List Rw} {n : Nat} {c : Option Int} (h : n < rs.length) : keyA rs ⟨2 * rs.length, 2 * n, c⟩ = (-1, (n : Int)) := by
  unfold keyA SS TT
  show ((if 2 * rs.length = 2 * rs.length then (-1 : Int) else _), (if 2 * n = 2 * rs.length + 1 then (-1 : Int) else _)) = _
  rw [if_pos rfl, if_neg (by omega), show 2 * n / 2 = n from by omega]
theorem key_want {rs : List Rw} {n : Nat} {c : Option Int} (h : n < rs.length) : keyA rs ⟨2 * n + 1, 2 * rs.length + 1, c⟩ = ((n : Int), -1) := by
  unfold keyA SS TT
  show ((if 2 * n + 1 = 2 * rs.length then (-1 : Int) else _), (if 2 * rs.length + 1 = 2 * rs.length + 1 then (-1 : Int) else _)) = _
  rw [if_neg (by omega), if_pos rfl, show (2 * n + 1) / 2 = n from by omega]
theorem sops_lt {rs : List Rw} (w : WF rs) {n : Nat} {r : Rw} (e : rs[n]? = some r) {k : Nat} (h : k ∈ sops rs r) : k < n := by
  have := ((w n r e).2.1 _ ((mem_sops w e).mp h)).2
  omega
theorem blk_key {rs : List Rw} (w : WF rs) {ws : List Int} {n : Nat} {a : Ar} (h : a ∈ blk rs ws n) : (keyA rs a).2 = (n : Int) ∨ keyA rs a = ((n : Int), -1) := by
  unfold blk at h
  cases e : rs[n]? with
  | none => rw [e] at h; cases h
  | some r =>
    have hl := (List.getElem?_eq_some_iff.mp e).1
    rw [e] at h
    have h : a ∈ (if liv rs ws (n : Int) = true then _ else []) := h
    split at h
    · rcases List.mem_cons.mp h with h | h
      · rw [h, key_node hl]
        exact .inl rfl
      · rcases List.mem_append.mp h with h | h
        · rcases List.mem_append.mp h with h | h
          · split at h
            · rw [List.mem_singleton] at h
              rw [h, key_src hl]
              exact .inl rfl
            · cases h
          · obtain ⟨k, hk, rfl⟩ := List.mem_map.mp h
            have := sops_lt w e (List.mem_filter.mp hk).1
            rw [key_op hl (by omega)]
            exact .inl rfl
        · split at h
          · rw [List.mem_singleton] at h
            rw [h, key_want hl]
            exact .inr rfl
          · cases h
    · cases h
theorem blk_pw {rs : List Rw} (w : WF rs) {ws : List Int} (n : Nat) : (blk rs ws n).Pairwise fun a b => keyA rs a ≠ keyA rs b := by
  unfold blk
  cases e : rs[n]? with
  | none => exact .nil
  | some r =>
    have hl := (List.getElem?_eq_some_iff.mp e).1
    show (if liv rs ws (n : Int) = true then _ else []).Pairwise _
    split
    · have ho : ∀ a ∈ ((sops rs r).filter fun (k : Nat) => liv rs ws (k : Int)).map (fun k => (⟨2 * k + 1, 2 * n, none⟩ : Ar)), ∃ k, k < n ∧ keyA rs a = ((k : Int), (n : Int)) := fun a ha => by
        obtain ⟨k, hk, rfl⟩ := List.mem_map.mp ha
        have := sops_lt w e (List.mem_filter.mp hk).1
        exact ⟨k, this, key_op hl (by omega)⟩
      have hs : ∀ a ∈ (if r.src = true then [(⟨2 * rs.length, 2 * n, none⟩ : Ar)] else []), keyA rs a = (-1, (n : Int)) := fun a ha => by
        split at ha
        · rw [List.mem_singleton] at ha
          rw [ha, key_src hl]
        · cases ha
      have hwt : ∀ a ∈ (if (n : Int) ∈ ws then [(⟨2 * n + 1, 2 * rs.length + 1, none⟩ : Ar)] else []), keyA rs a = ((n : Int), -1) := fun a ha => by
        split at ha
        · rw [List.mem_singleton] at ha
          rw [ha, key_want hl]
        · cases ha
      refine List.pairwise_cons.mpr ⟨fun a ha => ?_, List.pairwise_append.mpr ⟨List.pairwise_append.mpr ⟨?_, ?_, fun a ha b hb => ?_⟩, ?_, fun a ha b hb => ?_⟩⟩
      · rw [key_node hl]
        rcases List.mem_append.mp ha with ha | ha
        · rcases List.mem_append.mp ha with ha | ha
          · rw [hs a ha]
            intro z
            injection z with z _
            omega
          · obtain ⟨k, hk, ek⟩ := ho a ha
            rw [ek]
            intro z
            injection z with z _
            omega
        · rw [hwt a ha]
          intro z
          injection z with _ z
          omega
      · split
        · exact List.pairwise_singleton _ _
        · exact .nil
      · rw [List.pairwise_map]
        refine List.Pairwise.imp_of_mem (R := fun a b => a < b) (fun {a b} ha hb h => ?_) ((List.pairwise_lt_range.filter _).filter _)
        have h1 := sops_lt w e (List.mem_filter.mp ha).1
        have h2 := sops_lt w e (List.mem_filter.mp hb).1
        rw [key_op hl (by omega), key_op hl (by omega)]
        intro z
        injection z with z _
        omega
      · rw [hs a ha]
        obtain ⟨k, hk, ek⟩ := ho b hb
        rw [ek]
        intro z
        injection z with z _
        omega
      · split
        · exact List.pairwise_singleton _ _
        · exact .nil
      · rw [hwt b hb]
        rcases List.mem_append.mp ha with ha | ha
        · rw [hs a ha]
          intro z
          injection z with _ z
          omega
        · obtain ⟨k, hk, ek⟩ := ho a ha
          rw [ek]
          intro z
          injection z with _ z
          omega
    · exact .nil
theorem arcs_pw {rs : List Rw} (w : WF rs) {ws : List Int} : (arcs rs ws).Pairwise fun a b => keyA rs a ≠ keyA rs b := by
  unfold arcs
  refine List.pairwise_flatMap.mpr ⟨fun n _ => blk_pw w n, ?_⟩
  refine List.pairwise_lt_range.imp fun {n m} h a ha b hb => ?_
  rcases blk_key w ha with h1 | h1 <;> rcases blk_key w hb with h2 | h2
  · intro z
    rw [z, h2] at h1
    omega
  · intro z
    rw [z, h2] at h1
    have h1 : (-1 : Int) = (n : Int) := h1
    omega
  · intro z
    rw [← z, h1] at h2
    have h2 : (-1 : Int) = (m : Int) := h2
    omega
  · rw [h1, h2]
    intro z
    injection z with z _
    omega
theorem key_inj {rs : List Rw} (w : WF rs) {ws : List Int} {i j : Nat} (hi : i < (arcs rs ws).length) (hj : j < (arcs rs ws).length) (e : keyA rs (ar (arcs rs ws) i) = keyA rs (ar (arcs rs ws) j)) : i = j := by
  have h := List.pairwise_iff_getElem.mp (arcs_pw w (ws := ws))
  have e1 : ar (arcs rs ws) i = (arcs rs ws)[i] := by
    unfold ar
    rw [List.getD_eq_getElem?_getD, List.getElem?_eq_getElem hi]
    rfl
  have e2 : ar (arcs rs ws) j = (arcs rs ws)[j] := by
    unfold ar
    rw [List.getD_eq_getElem?_getD, List.getElem?_eq_getElem hj]
    rfl
  rw [e1, e2] at e
  rcases Nat.lt_trichotomy i j with k | k | k
  · exact absurd e (h i j hi hj k)
  · exact k
  · exact absurd e.symm (h j i hj hi k)
/-- the amount at a pair -/
def gF (fk : List (List Key × V)) (x y : Int) : Int := match valV fk ([Sum.inl x, Sum.inl y] : List Key) with | some (.int n) => n | _ => 0
def FlowKX (fk : List (List Key × V)) : Prop := ∀ (k : List Key) (v : V), valV fk k = some v → ∃ a b n : Int, k = [.inl a, .inl b] ∧ v = .int n
theorem FlowKX.nil : FlowKX [] := fun k v e => by cases e
theorem FlowKX.put {fk : List (List Key × V)} (h : FlowKX fk) {x y n : Int} : FlowKX (putK fk [Sum.inl x, Sum.inl y] (.int n)) := fun k v e => by
  rw [valV_put] at e
  by_cases hk : k = [Sum.inl x, Sum.inl y]
  · rw [if_pos hk] at e
    cases e
    exact ⟨x, y, n, hk, rfl⟩
  · rw [if_neg hk] at e
    exact h k v e
theorem gF_put {fk : List (List Key × V)} {x y n a b : Int} : gF (putK fk [Sum.inl x, Sum.inl y] (.int n)) a b = if a = x ∧ b = y then n else gF fk a b := by
  unfold gF
  rw [valV_put]
  by_cases h : a = x ∧ b = y
  · rw [if_pos h, if_pos (by rw [h.1, h.2])]
  · rw [if_neg h, if_neg]
    intro z
    injection z with z1 z2
    injection z1 with z1
    injection z2 with z2 _
    injection z2 with z2
    exact h ⟨z1, z2⟩
theorem flow_getX {H : Hp} {f q : Addr} {fk : List (List Key × V)} {x y : Int} (hfv : FlowKX fk) (h : H f = some (.dT fk)) (hq : H q = some (.tup [.int x, .int y])) : ∃ o : Option V, DGet H f (.ref q) o ∧ o.getD (.int 0) = .int (gF fk x y) := by
  have g : DGet H f (.ref q) (valV fk ([Sum.inl x, Sum.inl y] : List Key)) := DGet.t h hq
  refine ⟨_, g, ?_⟩
  unfold gF
  cases e : valV fk ([Sum.inl x, Sum.inl y] : List Key) with
  | none => rfl
  | some v =>
    obtain ⟨a, b, n, _, e2⟩ := hfv _ _ e
    rw [e2]
    rfl
/-- the amounts by arcs -/
def fA (rs : List Rw) (ws : List Int) (fk : List (List Key × V)) : Nat → Int := fun j => if j < (arcs rs ws).length then gF fk (keyA rs (ar (arcs rs ws) j)).1 (keyA rs (ar (arcs rs ws) j)).2 else 0
theorem fA_at {rs : List Rw} {ws : List Int} {fk : List (List Key × V)} {i : Nat} (hi : i < (arcs rs ws).length) {x y : Int} (e : keyA rs (ar (arcs rs ws) i) = (x, y)) : fA rs ws fk i = gF fk x y := by
  unfold fA
  rw [if_pos hi, e]
theorem fA_put {rs : List Rw} (w : WF rs) {ws : List Int} {fk : List (List Key × V)} {i : Nat} (hi : i < (arcs rs ws).length) {x y n : Int} (e : keyA rs (ar (arcs rs ws) i) = (x, y)) : fA rs ws (putK fk [Sum.inl x, Sum.inl y] (.int n)) = fun j => if j = i then n else fA rs ws fk j := by
  funext j
  unfold fA
  by_cases hj : j < (arcs rs ws).length
  · rw [if_pos hj, if_pos hj, gF_put]
    by_cases z : j = i
    · subst z
      rw [e, if_pos ⟨rfl, rfl⟩, if_pos rfl]
    · rw [if_neg z, if_neg]
      rintro ⟨h1, h2⟩
      exact z (key_inj w hj hi (by rw [e]; exact Prod.ext h1 h2))
  · rw [if_neg hj, if_neg hj, if_neg (fun (z : j = i) => hj (by rw [z]; exact hi))]
theorem push_one {rs : List Rw} (w : WF rs) {ws : List Int} {fk : List (List Key × V)} {i : Nat} {fw : Bool} (hi : i < (arcs rs ws).length) {x y n : Int} (e : keyA rs (ar (arcs rs ws) i) = (x, y)) (en : n = gF fk x y + (if fw = true then 1 else -1)) : fA rs ws (putK fk [Sum.inl x, Sum.inl y] (.int n)) = push 1 [(i, fw)] (fA rs ws fk) := by
  rw [fA_put w hi e]
  funext j
  show _ = (if j = i then (if fw = true then fA rs ws fk j + 1 else fA rs ws fk j - 1) else fA rs ws fk j)
  by_cases z : j = i
  · subst z
    rw [if_pos rfl, if_pos rfl, fA_at hi e, en]
    cases fw with
    | true => rfl
    | false => rfl
  · rw [if_neg z, if_neg z]
theorem push_append {d : Int} : ∀ (a b : List (Nat × Bool)) (f : Nat → Int), push d (a ++ b) f = push d b (push d a f)
  | [], _, _ => rfl
  | (i, fw) :: a, b, f => by
    show push d (a ++ b) _ = push d b (push d a _)
    exact push_append a b _
end NF
set_option Elab.async false
set_option linter.all false
set_option maxRecDepth 100000
set_option maxHeartbeats 4000000
namespace K15W
open PySem PySem.Spec PyProof.Rows L2 TL LW NT FL NF
local macro_rules | `(tactic| walk_at "ne") => `(tactic| first
  | (with_reducible assumption)
  | exact Ne.symm (by assumption)
  | (with_reducible exact ne_of_none (by assumption) (by assumption))
  | (with_reducible exact (ne_of_none (by assumption) (by assumption)).symm)
  | (apply ne_of_none; (case h' => assumption); (case h => walk_at "hp"))
  | (apply Ne.symm; apply ne_of_none; (case h' => assumption); (case h => walk_at "hp")))
local macro_rules | `(tactic| walk_at "hp") => `(tactic| first
  | (with_reducible assumption)
  | exact upd_same
  | (with_reducible exact hp_new (by assumption) (by assumption))
  | (apply hp_new; (case n => assumption); (case h => walk_at "hp"))
  | (refine (upd_ne ?ne).trans ?hp; (case ne => walk_at "ne"); (case hp => walk_at "hp")))
local macro_rules | `(tactic| walk_at "sq") => `(tactic| first
  | ((with_reducible show SqL _ _ _ _); assumption)
  | ((with_reducible show SqT _ _ _ _); assumption)
  | exact SqL.of (by assumption)
  | exact SqL.of upd_same
  | exact SqT.of (by assumption)
  | exact SqT.of upd_same
  | (apply SqL.of; walk_at "hp")
  | (apply SqT.of; walk_at "hp"))
local macro_rules | `(tactic| walk_at "len") => `(tactic| first
  | (with_reducible assumption)
  | exact sz_small (by omega)
  | exact sz_less (by omega)
  | decide
  | (refine sz_small ?_; simp only [List.length_append, List.length_cons, List.length_nil, List.length_map, str_len]; omega)
  | (refine sz_less ?_; simp only [List.length_append, List.length_cons, List.length_nil, List.length_map, str_len]; omega))
local macro_rules | `(tactic| walk_at "cond") => `(tactic| first
  | omega
  | (split <;> omega)
  | (with_reducible assumption)
  | exact .inl ⟨by omega, by omega⟩
  | exact .inr ⟨by omega, by omega⟩
  | exact ⟨by omega, by omega⟩
  | (show (0 : Int) < _; omega)
  | (show (0 : Int) < _; decide +kernel)
  | exact ⟨by omega, by omega, by decide⟩
  | walk_at "len"
  | rfl
  | (show CMulW _ _; unfold CMulW; decide +kernel)
  | exact ⟨_, rfl⟩
  | decide +kernel
  | exact ⟨_, by walk_at "sq"⟩
  | exact .inl ⟨rfl, _, by walk_at "sq"⟩)
local macro_rules | `(tactic| walk_at "at") => `(tactic| first
  | (with_reducible assumption)
  | exact atI_nat (by assumption)
  | exact atI_last _ _
  | exact atI_nat (j := 0) rfl
  | exact atI_nat (j := 1) rfl
  | exact atI_nat (j := 2) rfl
  | exact atI_nat (j := 3) rfl
  | exact atI_nat (j := 4) rfl)
local macro_rules | `(tactic| walk_at "ix") => `(tactic| first
  | (with_reducible assumption)
  | (with_reducible exact ixN_0 (by simp; done))
  | (with_reducible exact ixN_1 (by simp; done))
  | (with_reducible exact ixN_2 (by simp; done))
  | (with_reducible exact Evl.ixN_nat (by assumption))
  | (with_reducible exact Evl.ixN_nat (by omega)))
local macro_rules | `(tactic| walk_at "v") => `(tactic| first
  | exact val_var rfl
  | (with_reducible exact val_c)
  | (with_reducible apply val_orV; (case ha => walk_at "v"); (case hb => walk_at "v"))
  | (with_reducible apply val_andV; (case ha => walk_at "v"); (case hb => walk_at "v"))
  | (with_reducible apply val_notV; walk_at "v")
  | (with_reducible apply val_ifS; (case h => walk_at "w"); (case ha => walk_at "v"); (case hb => walk_at "v"))
  | (with_reducible apply val_ifI; (case h => walk_at "w"); (case ha => walk_at "v"); (case hb => walk_at "v"))
  | (with_reducible apply val_ifB; (case h => walk_at "w"); (case ha => walk_at "v"); (case hb => walk_at "v"))
  | (with_reducible apply val_eqS; (case ha => walk_at "v"); (case hb => walk_at "v"))
  | (with_reducible apply val_eqI; (case ha => walk_at "v"); (case hb => walk_at "v"))
  | (with_reducible apply val_neS; (case ha => walk_at "v"); (case hb => walk_at "v"))
  | (with_reducible apply val_neI; (case ha => walk_at "v"); (case hb => walk_at "v"))
  | (with_reducible apply val_op; (case ha => walk_at "v"); (case hb => walk_at "v"); (case hr => exact fun Q q => ⟨_, _, rfl, rfl, q⟩)))
local macro_rules | `(tactic| walk_at "w") => `(tactic| first
  | (with_reducible apply ans_or2; (case h1 => walk_at "w"); (case h2 => walk_at "w"))
  | (with_reducible apply ans_and2; (case h1 => walk_at "w"); (case h2 => walk_at "w"))
  | (with_reducible apply ans_not; walk_at "w")
  | (with_reducible apply ans_test; walk_at "v")
  | (with_reducible apply ans_val; walk_at "v"))
local macro_rules | `(tactic| walk_at "s2") => `(tactic| first
  | refine ⟨_, rfl, ?_⟩
  | refine ⟨_, _, rfl, rfl, ?_⟩
  | (refine And.intro ?cc ?_; (case cc => walk_at "cond"))
  | refine ⟨_, _, _, _, rfl, rfl, by walk_at "sq", by walk_at "at", ?_⟩
  | refine ⟨_, _, _, _, rfl, rfl, by walk_at "hp", by walk_at "ix", ?_⟩
  | refine ⟨_, _, _, _, rfl, rfl, by walk_at "hp", by walk_at "hp", by walk_at "len", ?_⟩
  | refine ⟨_, _, _, rfl, rfl, by walk_at "len", by walk_at "at", ?_⟩
  | refine ⟨_, _, _, rfl, rfl, by walk_at "hp", by walk_at "len", ?_⟩
  | refine ⟨_, _, _, rfl, rfl, by walk_at "hp", by walk_at "at", ?_⟩
  | refine ⟨_, _, rfl, rfl, by walk_at "sq", ?_⟩
  | refine ⟨_, _, rfl, rfl, by walk_at "len", ?_⟩
  | refine ⟨_, _, rfl, by walk_at "sq", ?_⟩
  | refine ⟨_, _, rfl, .inl (by walk_at "sq"), ?_⟩
  | refine ⟨_, _, rfl, .inr (by walk_at "sq"), ?_⟩
  | refine ⟨_, _, rfl, by walk_at "sq", rfl, ?_⟩
  | refine ⟨_, fun _ _ h => h, ?_⟩
  | refine .inl ⟨_, rfl, ?_⟩
  | refine ⟨_, _, .type "int", .type _, true, rfl, ClsV.ty _, .base (.int _), kit_ty (by decide +kernel), ?_⟩
  | refine ⟨_, _, .type "int", .type _, false, rfl, ClsV.ty _, .base (.int _), kit_ty (by decide +kernel), ?_⟩
  | refine ⟨_, _, .type "bool", .type _, true, rfl, ClsV.ty _, .base (.bl _), kit_ty (by decide +kernel), ?_⟩
  | refine ⟨_, _, .type "bool", .type _, false, rfl, ClsV.ty _, .base (.bl _), kit_ty (by decide +kernel), ?_⟩
  | refine ⟨_, _, .type "str", .type _, true, rfl, ClsV.ty _, .base (.str _), kit_ty (by decide +kernel), ?_⟩
  | refine ⟨_, _, .type "str", .type _, false, rfl, ClsV.ty _, .base (.str _), kit_ty (by decide +kernel), ?_⟩
  | refine ⟨_, _, .type "NoneType", .type _, true, rfl, ClsV.ty _, .base (.non), kit_ty (by decide +kernel), ?_⟩
  | refine ⟨_, _, .type "NoneType", .type _, false, rfl, ClsV.ty _, .base (.non), kit_ty (by decide +kernel), ?_⟩
  | refine ⟨_, _, .type "list", .type _, true, rfl, ClsV.ty _, .base (.lst (by walk_at "hp")), kit_ty (by decide +kernel), ?_⟩
  | refine ⟨_, _, .type "list", .type _, false, rfl, ClsV.ty _, .base (.lst (by walk_at "hp")), kit_ty (by decide +kernel), ?_⟩
  | refine ⟨_, _, .type "tuple", .type _, true, rfl, ClsV.ty _, .base (.tup (by walk_at "hp")), kit_ty (by decide +kernel), ?_⟩
  | refine ⟨_, _, .type "tuple", .type _, false, rfl, ClsV.ty _, .base (.tup (by walk_at "hp")), kit_ty (by decide +kernel), ?_⟩
  | fail)
local macro_rules | `(tactic| walk_at "s1") => `(tactic| first
  | (with_reducible refine go_gcons ?_)
  | (with_reducible refine go_gnil ?_)
  | (with_reducible refine go_seqM ?_)
  | (with_reducible refine go_nextM ?_)
  | (with_reducible refine go_contM ?_)
  | (with_reducible refine go_brkM ?_)
  | (with_reducible refine go_retM ?_)
  | (with_reducible refine go_asgM ?_)
  | (with_reducible refine go_test ?_)
  | (with_reducible refine go_rI0 ?_)
  | (with_reducible refine go_op ?_)
  | (with_reducible refine go_var rfl ?_)
  | ((with_reducible show tFor (iRng1 _) _ _ _ _ _); refine (show iRng1 _ _ _ _ from ?_))
  | (with_reducible refine go_rng1 ?_)
  | (with_reducible refine go_c ?_)
  | (with_reducible apply go_pick; (case hs => walk_at "hp"); (case h0 => walk_at "cond"); (case h1 => walk_at "cond"); (case' q => intro k a b c h0 h1))
  | (with_reducible refine go_nil ?_)
  | (with_reducible refine go_cons ?_)
  | (with_reducible refine go_call ?_)
  | (with_reducible refine go_cb ?_)
  | (with_reducible refine go_next ?_)
  | (with_reducible refine go_cont ?_)
  | (with_reducible refine go_ret ?_)
  | (with_reducible refine go_name ?_)
  | (with_reducible refine go_seq ?_)
  | (with_reducible refine go_asg ?_)
  | (with_reducible apply go_or; (case h => walk_at "v"))
  | (with_reducible apply go_and; (case h => walk_at "v"))
  | (with_reducible apply go_andL; (case h => walk_at "v"); (case' h1 => intro e); (case' h2 => intro e))
  | (with_reducible apply go_orL; (case h => walk_at "v"); (case' h1 => intro e); (case' h2 => intro e))
  | (with_reducible apply go_ifE; (case h => walk_at "v"))
  | (with_reducible apply go_ifOr; (case h => walk_at "w"); (case' h1 => intro e); (case' h2 => intro e))
  | (with_reducible apply go_ifAnd; (case h => walk_at "w"); (case' h1 => intro e); (case' h2 => intro e))
  | (with_reducible refine go_min ?_)
  | (with_reducible refine iteT ?_)
  | (with_reducible refine iteF ?_)
  | (with_reducible refine iteD (fun _ => ?_) (fun e => absurd rfl e))
  | (with_reducible refine iteS (fun e => ?_) (fun e => ?_))
  | (with_reducible refine iteI (fun e => ?_) (fun e => ?_))
  | (with_reducible refine iteSn (fun e => ?_) (fun e => ?_))
  | (with_reducible refine iteIn (fun e => ?_) (fun e => ?_))
  | (with_reducible refine iteD (fun e => ?_) (fun e => ?_))
  | (with_reducible refine iteDn (fun e => ?_) (fun e => ?_))
  | (with_reducible refine ite2 (fun e => ?_) (fun e => ?_))
  | (refine fun (p : Addr) (hp : _ = none) => ?_)
  | ((conv => whnf); walk_at "s2")
  | fail)
local macro_rules | `(tactic| walk_at "s") => `(tactic| repeat' (first
  | (with_reducible refine go_gcons ?_)
  | (with_reducible refine go_gnil ?_)
  | (with_reducible refine go_seqM ?_)
  | (with_reducible refine go_nextM ?_)
  | (with_reducible refine go_contM ?_)
  | (with_reducible refine go_brkM ?_)
  | (with_reducible refine go_retM ?_)
  | (with_reducible refine go_asgM ?_)
  | (with_reducible refine go_test ?_)
  | (with_reducible refine go_rI0 ?_)
  | (with_reducible refine go_op ?_)
  | (with_reducible refine go_var rfl ?_)
  | ((with_reducible show tFor (iRng1 _) _ _ _ _ _); refine (show iRng1 _ _ _ _ from ?_))
  | (with_reducible refine go_rng1 ?_)
  | (with_reducible refine go_c ?_)
  | (with_reducible apply go_pick; (case hs => walk_at "hp"); (case h0 => walk_at "cond"); (case h1 => walk_at "cond"); (case' q => intro k a b c h0 h1))
  | (with_reducible refine go_nil ?_)
  | (with_reducible refine go_cons ?_)
  | (with_reducible refine go_call ?_)
  | (with_reducible refine go_cb ?_)
  | (with_reducible refine go_next ?_)
  | (with_reducible refine go_cont ?_)
  | (with_reducible refine go_ret ?_)
  | (with_reducible refine go_name ?_)
  | (with_reducible refine go_seq ?_)
  | (with_reducible refine go_asg ?_)
  | (with_reducible apply go_or; (case h => walk_at "v"))
  | (with_reducible apply go_and; (case h => walk_at "v"))
  | (with_reducible apply go_andL; (case h => walk_at "v"); (case' h1 => intro e); (case' h2 => intro e))
  | (with_reducible apply go_orL; (case h => walk_at "v"); (case' h1 => intro e); (case' h2 => intro e))
  | (with_reducible apply go_ifE; (case h => walk_at "v"))
  | (with_reducible apply go_ifOr; (case h => walk_at "w"); (case' h1 => intro e); (case' h2 => intro e))
  | (with_reducible apply go_ifAnd; (case h => walk_at "w"); (case' h1 => intro e); (case' h2 => intro e))
  | (with_reducible refine go_min ?_)
  | (with_reducible refine iteT ?_)
  | (with_reducible refine iteF ?_)
  | (with_reducible refine iteD (fun _ => ?_) (fun e => absurd rfl e))
  | (with_reducible refine iteS (fun e => ?_) (fun e => ?_))
  | (with_reducible refine iteI (fun e => ?_) (fun e => ?_))
  | (with_reducible refine iteSn (fun e => ?_) (fun e => ?_))
  | (with_reducible refine iteIn (fun e => ?_) (fun e => ?_))
  | (with_reducible refine iteD (fun e => ?_) (fun e => ?_))
  | (with_reducible refine iteDn (fun e => ?_) (fun e => ?_))
  | (with_reducible refine ite2 (fun e => ?_) (fun e => ?_))
  | (refine fun (p : Addr) (hp : _ = none) => ?_)
  | ((conv => whnf); walk_at "s2")
  | fail))

/-- the users of each living node -/
def UsersX (H : Hp) (u : Addr) (rs : List Rw) (ls : List Int) : Prop := ∃ kvs, H u = some (.dK kvs) ∧ ∀ x ∈ ls, ∃ (l : Addr) (us : List Int), valV kvs (Sum.inl x : Key) = some (.ref l) ∧ Ints H l us ∧ (∀ y, y ∈ us ↔ y ∈ ls ∧ x ∈ opsN rs y) ∧ us.length ≤ 20
theorem UsersX.same {H H' : Hp} (e : Same H H') {u : Addr} {rs : List Rw} {ls : List Int} : UsersX H u rs ls → UsersX H' u rs ls := fun ⟨kvs, h1, h2⟩ => ⟨kvs, e _ _ h1, fun x hx => by
  obtain ⟨l, us, a, b, c⟩ := h2 x hx
  exact ⟨l, us, a, e _ _ b, c⟩⟩
def evenL (rs : List Rw) (fk : List (List Key × V)) (n : Int) : List Int := (((opsN rs n).filter fun o => decide (0 < gF fk o n)).map fun o => 2 * o + 1) ++ (if gF fk n n < szN rs n.toNat then [2 * n + 1] else [])
def oddL (fk : List (List Key × V)) (us : List Int) (n : Int) : List Int := (us.map fun x => 2 * x) ++ (if 0 < gF fk n n then [2 * n] else [])
def NextL (rs : List Rw) (ls : List Int) (fk : List (List Key × V)) (p : Int) (ts : List Int) : Prop := (p = 2 * (p / 2) ∧ ts = evenL rs fk (p / 2)) ∨ (p ≠ 2 * (p / 2) ∧ ∃ us : List Int, (∀ y, y ∈ us ↔ y ∈ ls ∧ p / 2 ∈ opsN rs y) ∧ ts = oddL fk us (p / 2))
theorem filter_snoc {α : Type} {p : α → Bool} {l : List α} {j : Nat} {x : α} (h : l[j]? = some x) : (l.take (j + 1)).filter p = (l.take j).filter p ++ (if p x = true then [x] else []) := by
  rw [take_snoc h, List.filter_append, List.filter_cons]
  rfl
section
variable {P : Program} {w : World} {K : PySem.W.Frag} {mg : Str → Option Value} {base : Heap}
/-! ### the next points -/
def spNextX : Sp := fun vs H Q _ => ∃ (a k lv u f : Addr) (rs : List Rw) (ls : List Int) (fk : List (List Key × V)) (p : Int), vs = [.ref a, .ref k, .ref lv, .ref u, .ref f, .int p] ∧ RowsT H a rs ∧ WF rs ∧ rs.length ≤ 20 ∧ (∀ x ∈ ls, 0 ≤ x ∧ x < (rs.length : Int)) ∧
  UsersX H u rs ls ∧ H f = some (.dT fk) ∧ FlowKX fk ∧ 0 ≤ p ∧ p / 2 ∈ ls ∧
  ∀ (l : Addr) (H' : Hp) (ts : List Int), Same H H' → H l = none → Ints H' l ts → NextL rs ls fk p ts → ts.length ≤ 60 → Q (.ref l) H'
theorem ok_nextX (T : Top w K mg) : FnOk P w K mg base CX0 1 T.a_law_c_next T.d_law_c_next ["rows", "wanted", "living_v", "users", "flow", "point"] spNextX := by
  refine T.F_law_c_next.ok sc_law_c_next (fun vs H Q E h => ?_) (fun cdv A0 outer s0 H vs Q E hr h => ?_)
  · obtain ⟨a, k, lv, u, f, rs, ls, fk, p, rfl, _⟩ := h
    rfl
  · obtain ⟨a, k, lv, u, f, rs, ls, fk, p, rfl, hR, hW, hn, hls, hU, hf, hfv, p0, p1, q⟩ := h
    obtain ⟨xs, hX, hE⟩ := id hR
    have hXl := hE.len
    have hu := hu_of hr
    obtain ⟨d0, d1⟩ := hls _ p1
    have er : rs[(p / 2).toNat]? = some rs[(p / 2).toNat] := List.getElem?_eq_getElem (by omega)
    obtain ⟨u0, eu, t, o, rfl, ht, ho⟩ := hE.get er
    have hat : atI xs (p / 2) = some (.ref t) := by
      rw [show p / 2 = (((p / 2).toNat : Nat) : Int) from by omega]
      exact atI_nat eu
    have eops : opsN rs (p / 2) = rs[(p / 2).toNat].ops := by
      unfold opsN
      rw [er]
    have esz : szN rs (p / 2).toNat = rs[(p / 2).toNat].sz := by
      unfold szN
      rw [er]
    have hok := hW _ _ er
    have ho2 : H o = some (.tup (rs[(p / 2).toNat].ops.map V.int)) := ho
    generalize rs[(p / 2).toNat] = r at eops esz hok ho2 ht
    refine ⟨_, (pss_cons (ps_set (i := 6) sc_law_c_next.nd rfl (.inr rfl) (pe_op op_fdiv (pv 5) pe_int))
    (pss_cons (ps_if (pt_cmpR op_eq (pv 5) (pe_op op_mul pe_int (pv 6)) (nomark _))
    (pss_cons (ps_setLc (i := 7) (own := [("operand", 8)]) rfl sc_law_c_next.nd rfl rfl (sw_true rfl rfl rfl (by decide +kernel)) (pi_tup (pe_ix ix_tup (pe_ix ix_list (pv 0) (pv 6) (fun _ _ => rfl)) pe_int (fun _ _ => rfl))) (blkOk_by (own := [("operand", 8)]) (N := ["rows", "wanted", "living_v", "users", "flow", "point", "node", "found", "operand", "user"]) (sc := defScope s_law_c_next) (by decide +kernel)) (fun _ _ _ _ _ => (pg_name (i := 8) sc_law_c_next.nd rfl (.inl rfl))) (fun _ _ _ _ _ => pts_one (pt_cmpR op_gt (pe_dget2 hu (pv 4) (pe_tup (pa_cons (pv 8) (pa_cons (pv 6) pa_nil))) pe_int ⟨rfl, rfl, rfl, rfl⟩) pe_int (nomark _))) (fun _ _ _ _ _ => (pe_op op_add (pe_op op_mul pe_int (pv 8)) pe_int)))
    (pss_one (ps_ret (pe_op op_cat (pv 7) (pe_ifExp (pt_cmpR op_lt (pe_dget2 hu (pv 4) (pe_tup (pa_cons (pv 6) (pa_cons (pv 6) pa_nil))) pe_int ⟨rfl, rfl, rfl, rfl⟩) (pe_ix ix_tup (pe_ix ix_list (pv 0) (pv 6) (fun _ _ => rfl)) pe_int (fun _ _ => rfl)) (nomark _)) (pe_lst (pa_cons (pe_op op_add (pv 5) pe_int) pa_nil)) (pe_lst pa_nil))))))
    pss_nil)
    (pss_one (ps_ret (pe_op op_cat (pe_lc (own := [("user", 9)]) rfl sc_law_c_next.nd (pi_list (pe_dget hu (pv 3) (pv 6) (fun _ _ => rfl))) (blkOk_by (own := [("user", 9)]) (N := ["rows", "wanted", "living_v", "users", "flow", "point", "node", "found", "operand", "user"]) (sc := defScope s_law_c_next) (by decide +kernel)) (fun _ _ _ _ _ => (pg_name (i := 9) sc_law_c_next.nd rfl (.inl rfl))) (fun _ _ _ _ _ => pts_nil) (fun _ _ _ _ _ => (pe_op op_mul pe_int (pv 9)))) (pe_ifExp (pt_cmpR op_gt (pe_dget2 hu (pv 4) (pe_tup (pa_cons (pv 6) (pa_cons (pv 6) pa_nil))) pe_int ⟨rfl, rfl, rfl, rfl⟩) pe_int (nomark _)) (pe_lst (pa_cons (pe_op op_sub (pv 5) pe_int) pa_nil)) (pe_lst pa_nil))))))), ?_⟩
    walk_at "s"
    · rename_i e B hB
      have h4 := hok.2.2.2
      refine lc_tup (xs := r.ops.map V.int) (fun j H3 => Same H H3 ∧ Ints H3 B (((r.ops.take j).filter fun o => decide (0 < gF fk o (p / 2))).map fun o => 2 * o + 1)) ?_ ?_ ?_ ?_
      · exact ⟨same_new hB, upd_same⟩
      · intro j H3 hj hP
        exact SqT.of (hP.1 _ _ ho2)
      · intro j x H3 hj hP
        obtain ⟨sm, b1⟩ := hP
        obtain ⟨z, rfl, hz⟩ := map_get hj
        have hjl := (List.getElem?_eq_some_iff.mp hz).1
        have hf3 := sm _ _ hf
        walk_at "s"
        refine ⟨.inr ⟨_, .inl hf3⟩, ?_⟩
        walk_at "s"
        rename_i q1 hq1
        obtain ⟨o1, g1, g2⟩ := flow_getX hfv (hp_new hf3 hq1) upd_same
        refine ⟨o1, g1, ?_⟩
        rw [g2]
        have sm5 : Same H (upd H3 q1 (.tup [.int z, .int (p / 2)])) := sm.trans (same_new hq1)
        have b5 : upd H3 q1 (.tup [.int z, .int (p / 2)]) B = some (.lst ((((r.ops.take j).filter fun o => decide (0 < gF fk o (p / 2))).map fun o => 2 * o + 1).map V.int)) := hp_new b1 hq1
        have bl : ((((r.ops.take j).filter fun o => decide (0 < gF fk o (p / 2))).map fun o => 2 * o + 1).map V.int).length ≤ 40 := by
          rw [List.length_map, List.length_map]
          have := List.length_filter_le (fun o => decide (0 < gF fk o (p / 2))) (r.ops.take j)
          rw [List.length_take] at this
          omega
        walk_at "s"
        · rename_i e2
          refine ⟨_, b5, sz_less (by omega), same_mut sm5 hB, ?_⟩
          show upd _ _ _ _ = _
          rw [upd_same, filter_snoc hz, if_pos (decide_eq_true e2), List.map_append, List.map_append]
          rfl
        · rename_i e2
          have b6 : upd H3 q1 (.tup [.int z, .int (p / 2)]) B = some (.lst ((((r.ops.take (j + 1)).filter fun o => decide (0 < gF fk o (p / 2))).map fun o => 2 * o + 1).map V.int)) := by
            rw [b5, filter_snoc hz, if_neg (by rw [decide_eq_true_eq]; exact e2), List.append_nil]
          first | exact ⟨sm5, b6⟩ | exact b6
      · intro H3 hP
        obtain ⟨sm, b1⟩ := hP
        have hf3 := sm _ _ hf
        have ht3 := sm _ _ ht
        have hX3 := sm _ _ hX
        walk_at "s"
        rw [List.length_map, List.take_length, ← eops] at b1
        have nB : H B = none := hB
        have b1' : H3 B = some (.lst (((((opsN rs (p / 2)).filter fun o => decide (0 < gF fk o (p / 2))).map fun o => 2 * o + 1)).map V.int)) := b1
        have bl : ((opsN rs (p / 2)).filter fun o => decide (0 < gF fk o (p / 2))).length ≤ 40 := by
          rw [eops]
          have := List.length_filter_le (fun o => decide (0 < gF fk o (p / 2))) r.ops
          omega
        refine ⟨.inr ⟨_, .inl hf3⟩, ?_⟩
        walk_at "s"
        rename_i q1 hq1
        obtain ⟨o1, g1, g2⟩ := flow_getX hfv (hp_new hf3 hq1) upd_same
        refine ⟨o1, g1, ?_⟩
        rw [g2]
        have sm5 : Same H (upd H3 q1 (.tup [.int (p / 2), .int (p / 2)])) := sm.trans (same_new hq1)
        have b5 := hp_new (x := .tup [.int (p / 2), .int (p / 2)]) b1' hq1
        walk_at "s"
        · rename_i e2 C hC D hD
          have sm6 := sm5.trans (same_new (o := .lst [.int (p + 1)]) hC)
          refine q D _ (evenL rs fk (p / 2)) (sm6.trans (same_new hD)) (sm6.free hD) ?_ (.inl ⟨e, rfl⟩) ?_
          · show upd _ _ _ _ = _
            unfold evenL
            rw [upd_same, esz, if_pos e2, List.map_append, ← e]
            rfl
          · unfold evenL
            rw [List.length_append, List.length_map]
            split <;> simp only [List.length_singleton, List.length_nil] <;> omega
        · rename_i e2 C hC D hD
          have sm6 := sm5.trans (same_new (o := .lst []) hC)
          refine q D _ (evenL rs fk (p / 2)) (sm6.trans (same_new hD)) (sm6.free hD) ?_ (.inl ⟨e, rfl⟩) ?_
          · show upd _ _ _ _ = _
            unfold evenL
            rw [upd_same, esz, if_neg e2, List.map_append]
            rfl
          · unfold evenL
            rw [List.length_append, List.length_map]
            split <;> simp only [List.length_singleton, List.length_nil] <;> omega
    · rename_i e
      obtain ⟨uk, hu1, hu2⟩ := hU
      obtain ⟨l0, us, v1, l1, l2, l3⟩ := hu2 _ p1
      have l1' : H l0 = some (.lst (us.map V.int)) := l1
      walk_at "s"
      refine ⟨u, .ref l0, rfl, by rw [← v1]; exact DGet.k (k := Sum.inl (p / 2)) hu1, ?_⟩
      walk_at "s"
      rename_i B hB
      refine lc_list (xs := us.map V.int) (fun j H3 => Same H H3 ∧ Ints H3 B ((us.take j).map fun x => 2 * x)) ?_ ?_ ?_ ?_
      · exact ⟨same_new hB, upd_same⟩
      · intro j H3 hj hP
        exact SqL.of (hP.1 _ _ l1)
      · intro j x H3 hj hP
        obtain ⟨sm, b1⟩ := hP
        obtain ⟨z, rfl, hz⟩ := map_get hj
        have hjl := (List.getElem?_eq_some_iff.mp hz).1
        walk_at "s"
        refine ⟨_, b1, sz_less (by simp only [List.length_map, List.length_take]; omega), same_mut sm hB, ?_⟩
        show upd _ _ _ _ = _
        rw [upd_same, take_snoc hz, List.map_append, List.map_append]
        rfl
      · intro H3 hP
        obtain ⟨sm, b1⟩ := hP
        rw [List.length_map, List.take_length] at b1
        have hf3 := sm _ _ hf
        walk_at "s"
        refine ⟨.inr ⟨_, .inl hf3⟩, ?_⟩
        walk_at "s"
        rename_i q1 hq1
        obtain ⟨o1, g1, g2⟩ := flow_getX hfv (hp_new hf3 hq1) upd_same
        refine ⟨o1, g1, ?_⟩
        rw [g2]
        have nB : H B = none := hB
        have sm5 : Same H (upd H3 q1 (.tup [.int (p / 2), .int (p / 2)])) := sm.trans (same_new hq1)
        have b5 : upd H3 q1 (.tup [.int (p / 2), .int (p / 2)]) B = some (.lst ((us.map fun x => 2 * x).map V.int)) := hp_new b1 hq1
        have b6 : ((us.map fun x => 2 * x).map V.int).length ≤ 20 := by
          rw [List.length_map, List.length_map]
          exact l3
        rw [List.length_map] at b6
        walk_at "s"
        · rename_i e2 C hC D hD
          have sm6 := sm5.trans (same_new (o := .lst [.int (p - 1)]) hC)
          refine q D _ (oddL fk us (p / 2)) (sm6.trans (same_new hD)) (sm6.free hD) ?_ (.inr ⟨e, us, l2, rfl⟩) ?_
          · show upd _ _ _ _ = _
            unfold oddL
            rw [upd_same, if_pos e2, List.map_append, show 2 * (p / 2) = p - 1 from by omega]
            rfl
          · unfold oddL
            rw [List.length_append]
            split <;> simp <;> rw [List.length_map] at b6 <;> omega
        · rename_i e2 C hC D hD
          have sm6 := sm5.trans (same_new (o := .lst []) hC)
          refine q D _ (oddL fk us (p / 2)) (sm6.trans (same_new hD)) (sm6.free hD) ?_ (.inr ⟨e, us, l2, rfl⟩) ?_
          · show upd _ _ _ _ = _
            unfold oddL
            rw [upd_same, if_neg e2, List.map_append]
            rfl
          · unfold oddL
            rw [List.length_append]
            split <;> simp <;> rw [List.length_map] at b6 <;> omega
end
end K15W
set_option Elab.async false
set_option linter.all false
set_option maxRecDepth 100000
/-! K19P4: the law's own search and the way back. -/
namespace K15W
open PySem PySem.Spec PyProof.Rows L2 TL LW NT FL NF
/-- amounts stand at arcs alone -/
def Off (rs : List Rw) (ws : List Int) (fk : List (List Key × V)) : Prop := ∀ a b, gF fk a b ≠ 0 → ∃ i, i < (arcs rs ws).length ∧ keyA rs (ar (arcs rs ws) i) = (a, b)
theorem Off.nil {rs : List Rw} {ws : List Int} : Off rs ws [] := fun a b h => absurd rfl h
theorem Off.put {rs : List Rw} {ws : List Int} {fk : List (List Key × V)} (h : Off rs ws fk) {i : Nat} (hi : i < (arcs rs ws).length) {x y n : Int} (e : keyA rs (ar (arcs rs ws) i) = (x, y)) : Off rs ws (putK fk [Sum.inl x, Sum.inl y] (.int n)) := fun a b g => by
  rw [gF_put] at g
  by_cases z : a = x ∧ b = y
  · exact ⟨i, hi, by rw [e, z.1, z.2]⟩
  · rw [if_neg z] at g
    exact h a b g
theorem livL_iff {rs : List Rw} {ws : List Int} {x : Int} : x ∈ livL rs ws ↔ ∃ n : Nat, x = (n : Int) ∧ n < rs.length ∧ liv rs ws (n : Int) = true := by
  unfold livL lives
  rw [List.mem_map]
  constructor
  · rintro ⟨n, hn, rfl⟩
    rw [List.mem_filter, List.mem_range] at hn
    exact ⟨n, rfl, hn.1, hn.2⟩
  · rintro ⟨n, rfl, h1, h2⟩
    exact ⟨n, List.mem_filter.mpr ⟨List.mem_range.mpr h1, h2⟩, rfl⟩
theorem ops_at {rs : List Rw} {n : Nat} {r : Rw} (e : rs[n]? = some r) : opsN rs (n : Int) = r.ops := by
  unfold opsN
  rw [Int.toNat_natCast, e]
theorem szN_at {rs : List Rw} {n : Nat} {r : Rw} (e : rs[n]? = some r) : szN rs n = r.sz := by
  unfold szN
  rw [e]
/-- the next points are where an arc passes -/
theorem next_spec {rs : List Rw} (w : WF rs) {ws : List Int} {fk : List (List Key × V)} (off : Off rs ws fk) {p : Nat} (hp : p / 2 < rs.length) (lv : liv rs ws ((p / 2 : Nat) : Int) = true) {ts : List Int} (h : NextL rs (livL rs ws) fk (p : Int) ts) :
    (∀ x ∈ ts, ∃ q : Nat, x = (q : Int) ∧ (q / 2 < rs.length ∧ liv rs ws ((q / 2 : Nat) : Int) = true) ∧ ∃ i fw, i < (arcs rs ws).length ∧ begP (arcs rs ws) i fw = p ∧ endP (arcs rs ws) i fw = q ∧ pass (arcs rs ws) (fA rs ws fk) i fw) ∧
    ∀ i fw, i < (arcs rs ws).length → begP (arcs rs ws) i fw = p → pass (arcs rs ws) (fA rs ws fk) i fw → endP (arcs rs ws) i fw = SS rs ∨ endP (arcs rs ws) i fw = NF.TT rs ∨ ((endP (arcs rs ws) i fw : Nat) : Int) ∈ ts := by
  have lt : ∀ {n : Nat} {r : Rw}, rs[n]? = some r → n < rs.length := fun e => (List.getElem?_eq_some_iff.mp e).1
  obtain ⟨n, en⟩ : ∃ n, n = p / 2 := ⟨_, rfl⟩
  have e2 : ((p : Int)) / 2 = (n : Int) := by omega
  rw [← en] at hp lv
  have er : rs[n]? = some rs[n] := List.getElem?_eq_getElem hp
  unfold NextL at h
  rw [e2] at h
  have np := arc_mem w (Arc.node (ws := ws) er lv rfl)
  obtain ⟨i0, hi0, ei0⟩ := mem_ar np
  have k0 : fA rs ws fk i0 = gF fk n n := fA_at hi0 (by rw [ei0]; exact key_node hp)
  rcases h with ⟨h1, h2⟩ | ⟨h1, us, h2, h3⟩
  · have e1 : p = 2 * n := by omega
    constructor
    · intro x hx
      rw [h2] at hx
      unfold evenL at hx
      rcases List.mem_append.mp hx with hx | hx
      · obtain ⟨o, ho, rfl⟩ := List.mem_map.mp hx
        rw [List.mem_filter, decide_eq_true_eq, ops_at er] at ho
        obtain ⟨o0, o1⟩ := (w n _ er).2.1 o ho.1
        obtain ⟨i, hi, ei⟩ := off o n (by omega)
        have key := fA_at (fk := fk) hi ei
        rcases mem_arcs w (ar_mem hi) with ⟨e, l, hh⟩ | ⟨e, l, s, hh⟩ | ⟨e, l, oo, l2, k, hh⟩ | ⟨e, l, s, hh⟩
        · rw [hh, key_node (lt e)] at ei
          injection ei with ei1 ei2
          omega
        · rw [hh, key_src (lt e)] at ei
          injection ei with ei1 ei2
          omega
        · have hl := lt e
          rw [hh, key_op hl (by omega)] at ei
          injection ei with ei1 ei2
          rename_i m kk r'
          have : m = n := by omega
          subst this
          refine ⟨2 * kk + 1, by omega, ⟨by omega, ?_⟩, i, false, hi, ?_, ?_, ?_⟩
          · rw [show (2 * kk + 1) / 2 = kk from by omega]
            exact l2
          · show (ar _ i).hi = p
            rw [hh, e1]
          · show (ar _ i).lo = _
            rw [hh]
          · show 0 < fA rs ws fk i
            rw [key]
            exact ho.2
        · rw [hh, key_want (lt e)] at ei
          injection ei with ei1 ei2
          omega
      · split at hx
        · rename_i c
          rw [List.mem_singleton] at hx
          rw [Int.toNat_natCast, szN_at er] at c
          refine ⟨2 * n + 1, by omega, ⟨by omega, ?_⟩, i0, true, hi0, ?_, ?_, ?_⟩
          · rw [show (2 * n + 1) / 2 = n from by omega]
            exact lv
          · show (ar _ i0).lo = p
            rw [ei0, e1]
          · show (ar _ i0).hi = _
            rw [ei0]
          · show ∀ c, (ar _ i0).cap = some c → _
            rw [ei0, k0]
            intro c2 hc
            injection hc with hc
            omega
        · cases hx
    · intro i fw hi hb hpass
      cases fw with
      | true =>
        have hb : (ar (arcs rs ws) i).lo = p := hb
        have hpass : ∀ c, (ar (arcs rs ws) i).cap = some c → fA rs ws fk i < c := hpass
        show (ar _ i).hi = _ ∨ (ar _ i).hi = _ ∨ _
        rcases mem_arcs w (ar_mem hi) with ⟨e, l, hh⟩ | ⟨e, l, s, hh⟩ | ⟨e, l, oo, l2, k, hh⟩ | ⟨e, l, s, hh⟩
        · rename_i m r'
          rw [hh] at hb
          have hb : 2 * m = p := hb
          have : m = n := by omega
          subst this
          have := hpass _ (by rw [hh])
          have kk : fA rs ws fk i = gF fk m m := fA_at hi (by rw [hh]; exact key_node hp)
          rw [kk] at this
          refine .inr (.inr ?_)
          rw [h2, show endP (arcs rs ws) i true = 2 * m + 1 from by show (ar _ i).hi = _; rw [hh]]
          unfold evenL
          refine List.mem_append_right _ ?_
          rw [if_pos (by rw [Int.toNat_natCast, szN_at e]; exact this)]
          exact List.mem_singleton.mpr (by omega)
        · rw [hh] at hb
          have hb : 2 * rs.length = p := hb
          omega
        · rw [hh] at hb
          have hb : 2 * _ + 1 = p := hb
          omega
        · rw [hh] at hb
          have hb : 2 * _ + 1 = p := hb
          omega
      | false =>
        have hb : (ar (arcs rs ws) i).hi = p := hb
        have hpass : 0 < fA rs ws fk i := hpass
        rcases mem_arcs w (ar_mem hi) with ⟨e, l, hh⟩ | ⟨e, l, s, hh⟩ | ⟨e, l, oo, l2, k, hh⟩ | ⟨e, l, s, hh⟩
        · rw [hh] at hb
          have hb : 2 * _ + 1 = p := hb
          omega
        · refine .inl ?_
          show (ar _ i).lo = _
          rw [hh]
          rfl
        · rename_i m kk r'
          rw [hh] at hb
          have hb : 2 * m = p := hb
          have : m = n := by omega
          subst this
          have kq : fA rs ws fk i = gF fk kk m := fA_at hi (by rw [hh]; exact key_op hp (by omega))
          rw [kq] at hpass
          refine .inr (.inr ?_)
          rw [h2, show endP (arcs rs ws) i false = 2 * kk + 1 from by show (ar _ i).lo = _; rw [hh]]
          unfold evenL
          refine List.mem_append_left _ (List.mem_map.mpr ⟨(kk : Int), ?_, by omega⟩)
          rw [List.mem_filter, decide_eq_true_eq, ops_at e]
          exact ⟨oo, hpass⟩
        · rw [hh] at hb
          have hb : 2 * rs.length + 1 = p := hb
          omega
  · have e1 : p = 2 * n + 1 := by omega
    constructor
    · intro x hx
      rw [h3] at hx
      unfold oddL at hx
      rcases List.mem_append.mp hx with hx | hx
      · obtain ⟨u, hu, rfl⟩ := List.mem_map.mp hx
        obtain ⟨u1, u2⟩ := (h2 u).mp hu
        obtain ⟨m, rfl, hm, lm⟩ := livL_iff.mp u1
        have em : rs[m]? = some rs[m] := List.getElem?_eq_getElem hm
        rw [ops_at em] at u2
        obtain ⟨i, hi, ei⟩ := mem_ar (arc_mem w (Arc.op (ws := ws) em lm u2 lv (by have := ((w m _ em).2.1 _ u2).2; omega) rfl))
        refine ⟨2 * m, by omega, ⟨by omega, ?_⟩, i, true, hi, ?_, ?_, ?_⟩
        · rw [show 2 * m / 2 = m from by omega]
          exact lm
        · show (ar _ i).lo = p
          rw [ei, e1]
        · show (ar _ i).hi = _
          rw [ei]
        · show ∀ c, (ar _ i).cap = some c → _
          rw [ei]
          intro c hc
          cases hc
      · split at hx
        · rename_i c
          rw [List.mem_singleton] at hx
          refine ⟨2 * n, by omega, ⟨by omega, ?_⟩, i0, false, hi0, ?_, ?_, ?_⟩
          · rw [show 2 * n / 2 = n from by omega]
            exact lv
          · show (ar _ i0).hi = p
            rw [ei0, e1]
          · show (ar _ i0).lo = _
            rw [ei0]
          · show 0 < fA rs ws fk i0
            rw [k0]
            exact c
        · cases hx
    · intro i fw hi hb hpass
      cases fw with
      | true =>
        have hb : (ar (arcs rs ws) i).lo = p := hb
        rcases mem_arcs w (ar_mem hi) with ⟨e, l, hh⟩ | ⟨e, l, s, hh⟩ | ⟨e, l, oo, l2, k, hh⟩ | ⟨e, l, s, hh⟩
        · rw [hh] at hb
          have hb : 2 * _ = p := hb
          omega
        · rw [hh] at hb
          have hb : 2 * rs.length = p := hb
          omega
        · rename_i m kk r'
          rw [hh] at hb
          have hb : 2 * kk + 1 = p := hb
          have : kk = n := by omega
          subst this
          refine .inr (.inr ?_)
          rw [h3, show endP (arcs rs ws) i true = 2 * m from by show (ar _ i).hi = _; rw [hh]]
          unfold oddL
          refine List.mem_append_left _ (List.mem_map.mpr ⟨(m : Int), (h2 _).mpr ⟨livL_iff.mpr ⟨m, rfl, lt e, l⟩, ?_⟩, by omega⟩)
          rw [ops_at e]
          exact oo
        · refine .inr (.inl ?_)
          show (ar _ i).hi = _
          rw [hh]
          rfl
      | false =>
        have hb : (ar (arcs rs ws) i).hi = p := hb
        have hpass : 0 < fA rs ws fk i := hpass
        rcases mem_arcs w (ar_mem hi) with ⟨e, l, hh⟩ | ⟨e, l, s, hh⟩ | ⟨e, l, oo, l2, k, hh⟩ | ⟨e, l, s, hh⟩
        · rename_i m r'
          rw [hh] at hb
          have hb : 2 * m + 1 = p := hb
          have : m = n := by omega
          subst this
          have kq : fA rs ws fk i = gF fk m m := fA_at hi (by rw [hh]; exact key_node hp)
          rw [kq] at hpass
          refine .inr (.inr ?_)
          rw [h3, show endP (arcs rs ws) i false = 2 * m from by show (ar _ i).lo = _; rw [hh]]
          unfold oddL
          refine List.mem_append_right _ ?_
          rw [if_pos hpass]
          exact List.mem_singleton.mpr (by omega)
        · rw [hh] at hb
          have hb : 2 * _ = p := hb
          omega
        · rw [hh] at hb
          have hb : 2 * _ = p := hb
          omega
        · rw [hh] at hb
          have hb : 2 * rs.length + 1 = p := hb
          omega
/-- what has been found -/
structure SrchX (rs : List Rw) (ws : List Int) (f : Nat → Int) (qs : List Nat) (ck : List (Key × V)) : Prop where
  nd : qs.Nodup
  pts : ∀ q ∈ qs, q / 2 < rs.length ∧ liv rs ws ((q / 2 : Nat) : Int) = true
  key : ∀ p : Nat, (valV ck (Sum.inl (p : Int) : Key)).isSome = decide (p ∈ qs)
  len : ck.length = qs.length
  met : ∀ (j q : Nat), qs[j]? = some q → ∃ i fw, i < (arcs rs ws).length ∧ endP (arcs rs ws) i fw = q ∧ pass (arcs rs ws) f i fw ∧ ((begP (arcs rs ws) i fw = SS rs ∧ valV ck (Sum.inl (q : Int) : Key) = some (.int (-1))) ∨ ∃ j', j' < j ∧ qs[j']? = some (begP (arcs rs ws) i fw) ∧ valV ck (Sum.inl (q : Int) : Key) = some (.int (begP (arcs rs ws) i fw : Nat)))
theorem SrchX.nil {rs : List Rw} {ws : List Int} {f : Nat → Int} : SrchX rs ws f [] [] := ⟨.nil, by simp, fun p => rfl, rfl, fun j q e => by simp at e⟩
theorem SrchX.put {rs : List Rw} {ws : List Int} {f : Nat → Int} {qs : List Nat} {ck : List (Key × V)} (h : SrchX rs ws f qs ck) {z : Nat} (hz : z ∉ qs) (pt : z / 2 < rs.length ∧ liv rs ws ((z / 2 : Nat) : Int) = true) {v : Int} {i : Nat} {fw : Bool} (hi : i < (arcs rs ws).length) (he : endP (arcs rs ws) i fw = z) (hp : pass (arcs rs ws) f i fw)
    (hb : (begP (arcs rs ws) i fw = SS rs ∧ v = -1) ∨ (begP (arcs rs ws) i fw ∈ qs ∧ v = (begP (arcs rs ws) i fw : Nat))) : SrchX rs ws f (qs ++ [z]) (putK ck (Sum.inl (z : Int)) (.int v)) := by
  have hn : valV ck (Sum.inl (z : Int) : Key) = none := by
    have := h.key z
    rw [decide_eq_false hz] at this
    cases e : valV ck (Sum.inl (z : Int) : Key) with
    | none => rfl
    | some v =>
      rw [e] at this
      cases this
  have vp : ∀ q : Nat, valV (putK ck (Sum.inl (z : Int)) (.int v)) (Sum.inl (q : Int) : Key) = if q = z then some (.int v) else valV ck (Sum.inl (q : Int) : Key) := fun q => by
    rw [valV_put]
    by_cases e : q = z
    · rw [if_pos e, if_pos (by rw [e])]
    · rw [if_neg e, if_neg]
      intro k
      injection k with k
      omega
  refine ⟨?_, ?_, ?_, ?_, ?_⟩
  · rw [List.nodup_append]
    refine ⟨h.nd, by simp, fun a ha b hb => ?_⟩
    rw [List.mem_singleton] at hb
    intro e
    exact hz (by rw [← hb, ← e]; exact ha)
  · intro q hq
    rcases List.mem_append.mp hq with hq | hq
    · exact h.pts q hq
    · rw [List.mem_singleton] at hq
      rw [hq]
      exact pt
  · intro p
    rw [vp]
    by_cases e : p = z
    · rw [if_pos e, e, decide_eq_true (by simp)]
      rfl
    · rw [if_neg e, h.key]
      refine decide_eq_decide.mpr ⟨fun k => List.mem_append_left _ k, fun k => (List.mem_append.mp k).elim id fun k => ?_⟩
      rw [List.mem_singleton] at k
      exact absurd k e
  · rw [putK_new _ hn, List.length_append, List.length_append, h.len]
    rfl
  · intro j q hq
    by_cases hj : j < qs.length
    · rw [List.getElem?_append_left hj] at hq
      obtain ⟨i, fw, a1, a2, a3, a4⟩ := h.met j q hq
      have : q ≠ z := fun e => hz (by rw [← e]; exact List.mem_of_getElem? hq)
      refine ⟨i, fw, a1, a2, a3, a4.imp (fun k => ⟨k.1, by rw [vp, if_neg this]; exact k.2⟩) fun ⟨j', k1, k2, k3⟩ => ⟨j', k1, ?_, by rw [vp, if_neg this]; exact k3⟩⟩
      rw [List.getElem?_append_left (by omega)]
      exact k2
    · have hl := (List.getElem?_eq_some_iff.mp hq).1
      rw [List.length_append, List.length_singleton] at hl
      have : j = qs.length := by omega
      subst this
      rw [List.getElem?_concat_length] at hq
      injection hq with hq
      subst hq
      refine ⟨i, fw, hi, he, hp, hb.imp (fun k => ⟨k.1, by rw [vp, if_pos rfl, k.2]⟩) fun ⟨k1, k2⟩ => ?_⟩
      obtain ⟨j', hj', e'⟩ := List.getElem_of_mem k1
      refine ⟨j', hj', ?_, by rw [vp, if_pos rfl, k2]⟩
      rw [List.getElem?_append_left hj', List.getElem?_eq_getElem hj', e']
theorem SrchX.few {rs : List Rw} {ws : List Int} {f : Nat → Int} {qs : List Nat} {ck : List (Key × V)} (h : SrchX rs ws f qs ck) : qs.length ≤ 2 * (livL rs ws).length := by
  have e : (livL rs ws).length = (lives rs ws).length := by
    unfold livL
    rw [List.length_map]
  rw [e]
  have hm : ∀ q ∈ qs, q / 2 ∈ lives rs ws := fun q hq => by
    unfold lives
    exact List.mem_filter.mpr ⟨List.mem_range.mpr (h.pts q hq).1, (h.pts q hq).2⟩
  have := nodup_lt (2 * (lives rs ws).length) (l := qs.map fun q => 2 * pos (lives rs ws) (q / 2) + q % 2) ?_ ?_
  · rw [List.length_map] at this
    exact this
  · unfold List.Nodup
    rw [List.pairwise_map]
    refine List.Pairwise.imp_of_mem (R := fun a b => a ≠ b) (fun {a b} ha hb hab z => hab ?_) h.nd
    obtain ⟨i, hi, ei⟩ := List.getElem_of_mem (hm a ha)
    obtain ⟨j, hj, ej⟩ := List.getElem_of_mem (hm b hb)
    have p1 := pos_at (lives_nodup (rs := rs) (ws := ws)) (List.getElem?_eq_some_iff.mpr ⟨hi, ei⟩)
    have p2 := pos_at (lives_nodup (rs := rs) (ws := ws)) (List.getElem?_eq_some_iff.mpr ⟨hj, ej⟩)
    rw [p1, p2] at z
    have : i = j := by omega
    subst this
    rw [ei] at ej
    omega
  · intro x hx
    obtain ⟨q, hq, rfl⟩ := List.mem_map.mp hx
    obtain ⟨i, hi, ei⟩ := List.getElem_of_mem (hm q hq)
    have p1 := pos_at (lives_nodup (rs := rs) (ws := ws)) (List.getElem?_eq_some_iff.mpr ⟨hi, ei⟩)
    rw [p1]
    omega
/-- all that a way met in this order goes on -/
def poX (rs : List Rw) (qs : List Nat) (p : Nat) : Nat := if p = SS rs then 0 else if p = NF.TT rs then qs.length + 1 else pos qs p + 1
theorem SrchX.po {rs : List Rw} {ws : List Int} {f : Nat → Int} {qs : List Nat} {ck : List (Key × V)} (h : SrchX rs ws f qs ck) {j q : Nat} (e : qs[j]? = some q) : poX rs qs q = j + 1 := by
  have := h.pts q (List.mem_of_getElem? e)
  unfold poX SS NF.TT
  rw [if_neg (by omega), if_neg (by omega), pos_at h.nd e]
/-- the flow so far -/
structure Fl (rs : List Rw) (ws : List Int) (fk : List (List Key × V)) (n : Int) : Prop where
  kx : FlowKX fk
  off : Off rs ws fk
  flow : Flow (arcs rs ws) (SS rs) (NF.TT rs) (fA rs ws fk)
  val : n = div (arcs rs ws) (fA rs ws fk) (SS rs)
theorem fA_nil {rs : List Rw} {ws : List Int} : fA rs ws [] = fun _ => 0 := by
  funext j
  unfold fA
  split <;> rfl
theorem Fl.nil {rs : List Rw} (w : WF rs) {ws : List Int} : Fl rs ws [] 0 := ⟨.nil, .nil, by rw [fA_nil]; exact flow_zero (arcs_cap w), by rw [fA_nil, div_zero]⟩
/-- the way back, from q on -/
structure Back (rs : List Rw) (ws : List Int) (fk0 fk : List (List Key × V)) (qs : List Nat) (j q : Nat) (pre : List (Nat × Bool)) : Prop where
  at_ : qs[j]? = some q
  kx : FlowKX fk
  off : Off rs ws fk
  eq : fA rs ws fk = push 1 pre (fA rs ws fk0)
  way : ∀ rest, Pth (arcs rs ws) (fA rs ws fk0) (poX rs qs) (SS rs) q rest → Pth (arcs rs ws) (fA rs ws fk0) (poX rs qs) (SS rs) (NF.TT rs) (pre ++ rest)
theorem want_arc {rs : List Rw} (w : WF rs) {ws : List Int} {m : Nat} (hm : m < rs.length) (lm : liv rs ws (m : Int) = true) (hw : (m : Int) ∈ ws) : ∃ i, i < (arcs rs ws).length ∧ ar (arcs rs ws) i = ⟨2 * m + 1, 2 * rs.length + 1, none⟩ ∧ keyA rs (ar (arcs rs ws) i) = ((m : Int), -1) := by
  obtain ⟨i, hi, ei⟩ := mem_ar (arc_mem w (Arc.want (ws := ws) (List.getElem?_eq_getElem hm) lm hw rfl))
  exact ⟨i, hi, ei, by rw [ei]; exact key_want hm⟩
theorem Back.start {rs : List Rw} (w : WF rs) {ws : List Int} {fk : List (List Key × V)} {n : Int} {qs : List Nat} {ck : List (Key × V)} (F : Fl rs ws fk n) (h : SrchX rs ws (fA rs ws fk) qs ck) {j m : Nat} (e : qs[j]? = some (2 * m + 1)) (hw : (m : Int) ∈ ws) : ∃ pre, Back rs ws fk (putK fk [Sum.inl (m : Int), Sum.inl (-1)] (.int (gF fk m (-1) + 1))) qs j (2 * m + 1) pre := by
  have pt := h.pts _ (List.mem_of_getElem? e)
  rw [show (2 * m + 1) / 2 = m from by omega] at pt
  obtain ⟨i, hi, ei, ki⟩ := want_arc w pt.1 pt.2 hw
  refine ⟨[(i, true)], e, F.kx.put, F.off.put hi ki, push_one w hi ki (by simp), fun rest hr => ?_⟩
  have hb : begP (arcs rs ws) i true = 2 * m + 1 := by
    show (ar _ i).lo = _
    rw [ei]
  have he : endP (arcs rs ws) i true = NF.TT rs := by
    show (ar _ i).hi = _
    rw [ei]
    rfl
  rw [← hb] at hr
  have := Pth.step hr hi (by
    show ∀ c, (ar _ i).cap = some c → _
    rw [ei]
    intro c hc
    cases hc) (by
    have hl := (List.getElem?_eq_some_iff.mp e).1
    rw [hb, he, h.po e]
    unfold poX SS NF.TT
    rw [if_neg (by omega), if_pos rfl]
    omega)
  rw [he] at this
  exact this
/-- one step back, over an arc between two points -/
theorem Back.step {rs : List Rw} (w : WF rs) {ws : List Int} {fk0 fk : List (List Key × V)} {qs : List Nat} {ck : List (Key × V)} {j q : Nat} {pre : List (Nat × Bool)} (h : SrchX rs ws (fA rs ws fk0) qs ck) (B : Back rs ws fk0 fk qs j q pre) {i : Nat} {fw : Bool} {j' b : Nat} (hi : i < (arcs rs ws).length) (he : endP (arcs rs ws) i fw = q) (hp : pass (arcs rs ws) (fA rs ws fk0) i fw) (hb : begP (arcs rs ws) i fw = b) (hj : j' < j) (ej : qs[j']? = some b) {x y n : Int} (k : keyA rs (ar (arcs rs ws) i) = (x, y)) (en : n = gF fk x y + (if fw = true then 1 else -1)) :
    Back rs ws fk0 (putK fk [Sum.inl x, Sum.inl y] (.int n)) qs j' b (pre ++ [(i, fw)]) := by
  refine ⟨ej, B.kx.put, B.off.put hi k, ?_, fun rest hr => ?_⟩
  · rw [push_one w hi k en, B.eq, push_append]
  · rw [List.append_assoc]
    refine B.way _ ?_
    subst he hb
    exact Pth.step hr hi hp (by rw [h.po B.at_, h.po ej]; omega)
theorem Back.fin {rs : List Rw} (w : WF rs) {ws : List Int} {fk0 fk : List (List Key × V)} {qs : List Nat} {ck : List (Key × V)} {j q : Nat} {n0 : Int} {pre : List (Nat × Bool)} (F : Fl rs ws fk0 n0) (h : SrchX rs ws (fA rs ws fk0) qs ck) (B : Back rs ws fk0 fk qs j q pre) {i : Nat} {fw : Bool} (hi : i < (arcs rs ws).length) (he : endP (arcs rs ws) i fw = q) (hp : pass (arcs rs ws) (fA rs ws fk0) i fw) (hb : begP (arcs rs ws) i fw = SS rs) {x y n : Int} (k : keyA rs (ar (arcs rs ws) i) = (x, y)) (en : n = gF fk x y + (if fw = true then 1 else -1)) :
    Fl rs ws (putK fk [Sum.inl x, Sum.inl y] (.int n)) (n0 + 1) := by
  have hpo : poX rs qs (SS rs) = 0 := if_pos rfl
  have way := B.way [(i, fw)] (by
    subst he
    exact Pth.step (by rw [hb]; exact .nil) hi hp (by rw [hb, h.po B.at_, hpo]; omega))
  have ef : fA rs ws (putK fk [Sum.inl x, Sum.inl y] (.int n)) = push 1 (pre ++ [(i, fw)]) (fA rs ws fk0) := by
    rw [push_one w hi k en, B.eq, push_append]
  obtain ⟨p1, p2⟩ := push_flow F.flow way (d := 1) (by omega) (fun s hs => by
    obtain ⟨_, hps⟩ := pth_pass way s hs
    unfold FL.Room
    unfold pass at hps
    cases c : s.2 with
    | true =>
      rw [c] at hps
      rw [if_pos rfl] at hps ⊢
      intro cc hc
      have := hps cc hc
      omega
    | false =>
      rw [c] at hps
      rw [if_neg (by decide)] at hps ⊢
      omega) (by unfold SS NF.TT; omega)
  exact ⟨B.kx.put, B.off.put hi k, by rw [ef]; exact p1, by rw [ef, p2, ← F.val]⟩
/-- the pair of an arc between two points -/
theorem pair_arc {rs : List Rw} (w : WF rs) {ws : List Int} {i : Nat} {fw : Bool} (hi : i < (arcs rs ws).length) {b q : Nat} (hb : begP (arcs rs ws) i fw = b) (he : endP (arcs rs ws) i fw = q) (pb : b / 2 < rs.length) (pq : q / 2 < rs.length) :
    ((decide ((q : Int) = 2 * ((q : Int) / 2)) == decide ((b : Int) / 2 = (q : Int) / 2)) = !fw) ∧ keyA rs (ar (arcs rs ws) i) = if fw = false ∧ (b : Int) / 2 ≠ (q : Int) / 2 then ((q : Int) / 2, (b : Int) / 2) else ((b : Int) / 2, (q : Int) / 2) := by
  have lt : ∀ {n : Nat} {r : Rw}, rs[n]? = some r → n < rs.length := fun e => (List.getElem?_eq_some_iff.mp e).1
  rcases mem_arcs w (ar_mem hi) with ⟨e, l, hh⟩ | ⟨e, l, s, hh⟩ | ⟨e, l, oo, l2, k, hh⟩ | ⟨e, l, s, hh⟩
  · rename_i n r
    unfold begP at hb
    unfold endP at he
    rw [hh] at hb he
    rw [hh, key_node (lt e)]
    cases fw with
    | true =>
      have hb : 2 * n = b := hb
      have he : 2 * n + 1 = q := he
      rw [show (b : Int) / 2 = n from by omega, show (q : Int) / 2 = n from by omega, decide_eq_false (by omega), decide_eq_true rfl, if_neg (by simp)]
      exact ⟨rfl, rfl⟩
    | false =>
      have hb : 2 * n + 1 = b := hb
      have he : 2 * n = q := he
      rw [show (b : Int) / 2 = n from by omega, show (q : Int) / 2 = n from by omega, decide_eq_true (by omega), decide_eq_true rfl, if_neg (by simp)]
      exact ⟨rfl, rfl⟩
  · unfold begP at hb
    unfold endP at he
    rw [hh] at hb he
    cases fw with
    | true =>
      have hb : 2 * rs.length = b := hb
      omega
    | false =>
      have he : 2 * rs.length = q := he
      omega
  · rename_i n kk r
    unfold begP at hb
    unfold endP at he
    rw [hh] at hb he
    have hl := lt e
    rw [hh, key_op hl (by omega)]
    cases fw with
    | true =>
      have hb : 2 * kk + 1 = b := hb
      have he : 2 * n = q := he
      rw [show (b : Int) / 2 = kk from by omega, show (q : Int) / 2 = n from by omega, decide_eq_true (by omega), decide_eq_false (by omega), if_neg (by simp)]
      exact ⟨rfl, rfl⟩
    | false =>
      have hb : 2 * n = b := hb
      have he : 2 * kk + 1 = q := he
      rw [show (b : Int) / 2 = n from by omega, show (q : Int) / 2 = kk from by omega, decide_eq_false (by omega), decide_eq_false (by omega), if_pos ⟨rfl, by omega⟩]
      exact ⟨rfl, rfl⟩
  · unfold begP at hb
    unfold endP at he
    rw [hh] at hb he
    cases fw with
    | true =>
      have he : 2 * rs.length + 1 = q := he
      omega
    | false =>
      have hb : 2 * rs.length + 1 = b := hb
      omega
theorem pair_src {rs : List Rw} (w : WF rs) {ws : List Int} {i : Nat} {fw : Bool} (hi : i < (arcs rs ws).length) {q : Nat} (hb : begP (arcs rs ws) i fw = SS rs) (he : endP (arcs rs ws) i fw = q) : fw = true ∧ keyA rs (ar (arcs rs ws) i) = (-1, (q : Int) / 2) := by
  have lt : ∀ {n : Nat} {r : Rw}, rs[n]? = some r → n < rs.length := fun e => (List.getElem?_eq_some_iff.mp e).1
  unfold SS at hb
  rcases mem_arcs w (ar_mem hi) with ⟨e, l, hh⟩ | ⟨e, l, s, hh⟩ | ⟨e, l, oo, l2, k, hh⟩ | ⟨e, l, s, hh⟩
  · have := lt e
    unfold begP at hb
    rw [hh] at hb
    cases fw <;> simp at hb <;> omega
  · have := lt e
    unfold begP at hb
    unfold endP at he
    rw [hh] at hb he
    rw [hh, key_src this]
    cases fw with
    | true =>
      rename_i n r
      have he : 2 * n = q := he
      rw [show (q : Int) / 2 = (n : Int) from by omega]
      exact ⟨rfl, rfl⟩
    | false =>
      simp at hb
      omega
  · have := lt e
    unfold begP at hb
    rw [hh] at hb
    cases fw <;> simp at hb <;> omega
  · have := lt e
    unfold begP at hb
    rw [hh] at hb
    cases fw <;> simp at hb <;> omega
/-- where the search has ended without a wanted exit -/
theorem SrchX.fend {rs : List Rw} (w : WF rs) {ws : List Int} {fk : List (List Key × V)} {n : Int} {qs : List Nat} {ck : List (Key × V)} (F : Fl rs ws fk n) (h : SrchX rs ws (fA rs ws fk) qs ck) (src : ∀ (m : Nat) (r : Rw), rs[m]? = some r → liv rs ws (m : Int) = true → r.src = true → 2 * m ∈ qs)
    (shut : ∀ (j q : Nat), qs[j]? = some q → (∀ i fw, i < (arcs rs ws).length → begP (arcs rs ws) i fw = q → pass (arcs rs ws) (fA rs ws fk) i fw → endP (arcs rs ws) i fw = SS rs ∨ endP (arcs rs ws) i fw = NF.TT rs ∨ endP (arcs rs ws) i fw ∈ qs) ∧ ¬ (q % 2 = 1 ∧ ((q / 2 : Nat) : Int) ∈ ws)) : Fend rs ws n qs := by
  have lt : ∀ {n : Nat} {r : Rw}, rs[n]? = some r → n < rs.length := fun e => (List.getElem?_eq_some_iff.mp e).1
  refine ⟨⟨_, F.flow, F.val, fun i fw hi hb hp => ?_, fun j q hq => ?_⟩, fun z => ?_, fun z => ?_, h.pts⟩
  · rcases hb with hb | hb
    · obtain ⟨e1, e2⟩ := pair_src w hi hb rfl
      subst e1
      have hb : (ar (arcs rs ws) i).lo = 2 * rs.length := hb
      rcases mem_arcs w (ar_mem hi) with ⟨e, l, hh⟩ | ⟨e, l, s, hh⟩ | ⟨e, l, oo, l2, k, hh⟩ | ⟨e, l, s, hh⟩
      · have := lt e
        rw [hh] at hb
        have hb : 2 * _ = 2 * rs.length := hb
        omega
      · refine .inr ?_
        rw [show endP (arcs rs ws) i true = 2 * _ from by show (ar _ i).hi = _; rw [hh]]
        exact src _ _ e l s
      · rw [hh] at hb
        have hb : 2 * _ + 1 = 2 * rs.length := hb
        omega
      · rw [hh] at hb
        have hb : 2 * _ + 1 = 2 * rs.length := hb
        omega
    · obtain ⟨j, hj, ej⟩ := List.getElem_of_mem hb
      obtain ⟨s1, s2⟩ := shut j _ (List.getElem?_eq_some_iff.mpr ⟨hj, ej⟩)
      rcases s1 i fw hi rfl hp with s | s | s
      · exact .inl s
      · exfalso
        have pt := h.pts _ hb
        refine s2 ?_
        unfold NF.TT at s
        rcases mem_arcs w (ar_mem hi) with ⟨e, l, hh⟩ | ⟨e, l, sr, hh⟩ | ⟨e, l, oo, l2, k, hh⟩ | ⟨e, l, sw, hh⟩
        · have := lt e
          unfold endP at s
          rw [hh] at s
          cases fw <;> simp at s <;> omega
        · have := lt e
          unfold endP at s
          rw [hh] at s
          cases fw <;> simp at s <;> omega
        · have := lt e
          unfold endP at s
          rw [hh] at s
          cases fw <;> simp at s <;> omega
        · have := lt e
          cases fw with
          | true =>
            rw [show begP (arcs rs ws) i true = 2 * _ + 1 from by show (ar _ i).lo = _; rw [hh]]
            refine ⟨by omega, ?_⟩
            rw [show ∀ m : Nat, (2 * m + 1) / 2 = m from fun m => by omega]
            exact sw
          | false =>
            have s : (ar (arcs rs ws) i).lo = _ := s
            rw [hh] at s
            have s : 2 * _ + 1 = 2 * rs.length + 1 := s
            omega
      · exact .inr s
  · obtain ⟨i, fw, a1, a2, a3, a4⟩ := h.met j q hq
    exact ⟨i, fw, a1, a2, a3, a4.imp (fun k => k.1) fun ⟨j', k1, k2, _⟩ => ⟨j', k1, k2⟩⟩
  · have := (h.pts _ z).1
    unfold NF.TT at this
    omega
  · have := (h.pts _ z).1
    unfold SS at this
    omega
end K15W
set_option Elab.async false
set_option linter.all false
set_option maxRecDepth 100000
set_option maxHeartbeats 4000000
namespace K15W
open PySem PySem.Spec PyProof.Rows L2 TL LW NT FL NF
local macro_rules | `(tactic| walk_at "ne") => `(tactic| first
  | (with_reducible assumption)
  | exact Ne.symm (by assumption)
  | (with_reducible exact ne_of_none (by assumption) (by assumption))
  | (with_reducible exact (ne_of_none (by assumption) (by assumption)).symm)
  | (apply ne_of_none; (case h' => assumption); (case h => walk_at "hp"))
  | (apply Ne.symm; apply ne_of_none; (case h' => assumption); (case h => walk_at "hp")))
local macro_rules | `(tactic| walk_at "hp") => `(tactic| first
  | (with_reducible assumption)
  | exact upd_same
  | (with_reducible exact hp_new (by assumption) (by assumption))
  | (apply hp_new; (case n => assumption); (case h => walk_at "hp"))
  | (refine (upd_ne ?ne).trans ?hp; (case ne => walk_at "ne"); (case hp => walk_at "hp")))
local macro_rules | `(tactic| walk_at "sq") => `(tactic| first
  | ((with_reducible show SqL _ _ _ _); assumption)
  | ((with_reducible show SqT _ _ _ _); assumption)
  | exact SqL.of (by assumption)
  | exact SqL.of upd_same
  | exact SqT.of (by assumption)
  | exact SqT.of upd_same
  | (apply SqL.of; walk_at "hp")
  | (apply SqT.of; walk_at "hp"))
local macro_rules | `(tactic| walk_at "len") => `(tactic| first
  | (with_reducible assumption)
  | exact sz_small (by omega)
  | exact sz_less (by omega)
  | decide
  | (refine sz_small ?_; simp only [List.length_append, List.length_cons, List.length_nil, List.length_map, str_len]; omega)
  | (refine sz_less ?_; simp only [List.length_append, List.length_cons, List.length_nil, List.length_map, str_len]; omega))
local macro_rules | `(tactic| walk_at "cond") => `(tactic| first
  | omega
  | (split <;> omega)
  | (with_reducible assumption)
  | exact .inl ⟨by omega, by omega⟩
  | exact .inr ⟨by omega, by omega⟩
  | exact ⟨by omega, by omega⟩
  | (show (0 : Int) < _; omega)
  | (show (0 : Int) < _; decide +kernel)
  | exact ⟨by omega, by omega, by decide⟩
  | walk_at "len"
  | rfl
  | (show CMulW _ _; unfold CMulW; decide +kernel)
  | exact ⟨_, rfl⟩
  | decide +kernel
  | exact ⟨_, by walk_at "sq"⟩
  | exact .inl ⟨rfl, _, by walk_at "sq"⟩)
local macro_rules | `(tactic| walk_at "at") => `(tactic| first
  | (with_reducible assumption)
  | exact atI_nat (by assumption)
  | exact atI_last _ _
  | exact atI_nat (j := 0) rfl
  | exact atI_nat (j := 1) rfl
  | exact atI_nat (j := 2) rfl
  | exact atI_nat (j := 3) rfl
  | exact atI_nat (j := 4) rfl)
local macro_rules | `(tactic| walk_at "ix") => `(tactic| first
  | (with_reducible assumption)
  | (with_reducible exact ixN_0 (by simp; done))
  | (with_reducible exact ixN_1 (by simp; done))
  | (with_reducible exact ixN_2 (by simp; done))
  | (with_reducible exact Evl.ixN_nat (by assumption))
  | (with_reducible exact Evl.ixN_nat (by omega)))
local macro_rules | `(tactic| walk_at "v") => `(tactic| first
  | exact val_var rfl
  | (with_reducible exact val_c)
  | (with_reducible apply val_orV; (case ha => walk_at "v"); (case hb => walk_at "v"))
  | (with_reducible apply val_andV; (case ha => walk_at "v"); (case hb => walk_at "v"))
  | (with_reducible apply val_notV; walk_at "v")
  | (with_reducible apply val_ifS; (case h => walk_at "w"); (case ha => walk_at "v"); (case hb => walk_at "v"))
  | (with_reducible apply val_ifI; (case h => walk_at "w"); (case ha => walk_at "v"); (case hb => walk_at "v"))
  | (with_reducible apply val_ifB; (case h => walk_at "w"); (case ha => walk_at "v"); (case hb => walk_at "v"))
  | (with_reducible apply val_eqS; (case ha => walk_at "v"); (case hb => walk_at "v"))
  | (with_reducible apply val_eqI; (case ha => walk_at "v"); (case hb => walk_at "v"))
  | (with_reducible apply val_neS; (case ha => walk_at "v"); (case hb => walk_at "v"))
  | (with_reducible apply val_neI; (case ha => walk_at "v"); (case hb => walk_at "v"))
  | (with_reducible apply val_op; (case ha => walk_at "v"); (case hb => walk_at "v"); (case hr => exact fun Q q => ⟨_, _, rfl, rfl, q⟩)))
local macro_rules | `(tactic| walk_at "w") => `(tactic| first
  | (with_reducible apply ans_or2; (case h1 => walk_at "w"); (case h2 => walk_at "w"))
  | (with_reducible apply ans_and2; (case h1 => walk_at "w"); (case h2 => walk_at "w"))
  | (with_reducible apply ans_not; walk_at "w")
  | (with_reducible apply ans_test; walk_at "v")
  | (with_reducible apply ans_val; walk_at "v"))
local macro_rules | `(tactic| walk_at "s2") => `(tactic| first
  | refine ⟨_, rfl, ?_⟩
  | refine ⟨_, _, rfl, rfl, ?_⟩
  | (refine And.intro ?cc ?_; (case cc => walk_at "cond"))
  | refine ⟨_, _, _, _, rfl, rfl, by walk_at "sq", by walk_at "at", ?_⟩
  | refine ⟨_, _, _, _, rfl, rfl, by walk_at "hp", by walk_at "ix", ?_⟩
  | refine ⟨_, _, _, _, rfl, rfl, by walk_at "hp", by walk_at "hp", by walk_at "len", ?_⟩
  | refine ⟨_, _, _, rfl, rfl, by walk_at "len", by walk_at "at", ?_⟩
  | refine ⟨_, _, _, rfl, rfl, by walk_at "hp", by walk_at "len", ?_⟩
  | refine ⟨_, _, _, rfl, rfl, by walk_at "hp", by walk_at "at", ?_⟩
  | refine ⟨_, _, rfl, rfl, by walk_at "sq", ?_⟩
  | refine ⟨_, _, rfl, rfl, by walk_at "len", ?_⟩
  | refine ⟨_, _, rfl, by walk_at "sq", ?_⟩
  | refine ⟨_, _, rfl, .inl (by walk_at "sq"), ?_⟩
  | refine ⟨_, _, rfl, .inr (by walk_at "sq"), ?_⟩
  | refine ⟨_, _, rfl, by walk_at "sq", rfl, ?_⟩
  | refine ⟨_, fun _ _ h => h, ?_⟩
  | refine .inl ⟨_, rfl, ?_⟩
  | refine ⟨_, _, .type "int", .type _, true, rfl, ClsV.ty _, .base (.int _), kit_ty (by decide +kernel), ?_⟩
  | refine ⟨_, _, .type "int", .type _, false, rfl, ClsV.ty _, .base (.int _), kit_ty (by decide +kernel), ?_⟩
  | refine ⟨_, _, .type "bool", .type _, true, rfl, ClsV.ty _, .base (.bl _), kit_ty (by decide +kernel), ?_⟩
  | refine ⟨_, _, .type "bool", .type _, false, rfl, ClsV.ty _, .base (.bl _), kit_ty (by decide +kernel), ?_⟩
  | refine ⟨_, _, .type "str", .type _, true, rfl, ClsV.ty _, .base (.str _), kit_ty (by decide +kernel), ?_⟩
  | refine ⟨_, _, .type "str", .type _, false, rfl, ClsV.ty _, .base (.str _), kit_ty (by decide +kernel), ?_⟩
  | refine ⟨_, _, .type "NoneType", .type _, true, rfl, ClsV.ty _, .base (.non), kit_ty (by decide +kernel), ?_⟩
  | refine ⟨_, _, .type "NoneType", .type _, false, rfl, ClsV.ty _, .base (.non), kit_ty (by decide +kernel), ?_⟩
  | refine ⟨_, _, .type "list", .type _, true, rfl, ClsV.ty _, .base (.lst (by walk_at "hp")), kit_ty (by decide +kernel), ?_⟩
  | refine ⟨_, _, .type "list", .type _, false, rfl, ClsV.ty _, .base (.lst (by walk_at "hp")), kit_ty (by decide +kernel), ?_⟩
  | refine ⟨_, _, .type "tuple", .type _, true, rfl, ClsV.ty _, .base (.tup (by walk_at "hp")), kit_ty (by decide +kernel), ?_⟩
  | refine ⟨_, _, .type "tuple", .type _, false, rfl, ClsV.ty _, .base (.tup (by walk_at "hp")), kit_ty (by decide +kernel), ?_⟩
  | fail)
local macro_rules | `(tactic| walk_at "s1") => `(tactic| first
  | (with_reducible refine go_gcons ?_)
  | (with_reducible refine go_gnil ?_)
  | (with_reducible refine go_seqM ?_)
  | (with_reducible refine go_nextM ?_)
  | (with_reducible refine go_contM ?_)
  | (with_reducible refine go_brkM ?_)
  | (with_reducible refine go_retM ?_)
  | (with_reducible refine go_asgM ?_)
  | (with_reducible refine go_test ?_)
  | (with_reducible refine go_rI0 ?_)
  | (with_reducible refine go_op ?_)
  | (with_reducible refine go_var rfl ?_)
  | ((with_reducible show tFor (iRng1 _) _ _ _ _ _); refine (show iRng1 _ _ _ _ from ?_))
  | (with_reducible refine go_rng1 ?_)
  | (with_reducible refine go_c ?_)
  | (with_reducible apply go_pick; (case hs => walk_at "hp"); (case h0 => walk_at "cond"); (case h1 => walk_at "cond"); (case' q => intro k a b c h0 h1))
  | (with_reducible refine go_nil ?_)
  | (with_reducible refine go_cons ?_)
  | (with_reducible refine go_call ?_)
  | (with_reducible refine go_cb ?_)
  | (with_reducible refine go_next ?_)
  | (with_reducible refine go_cont ?_)
  | (with_reducible refine go_ret ?_)
  | (with_reducible refine go_name ?_)
  | (with_reducible refine go_seq ?_)
  | (with_reducible refine go_asg ?_)
  | (with_reducible apply go_or; (case h => walk_at "v"))
  | (with_reducible apply go_and; (case h => walk_at "v"))
  | (with_reducible apply go_andL; (case h => walk_at "v"); (case' h1 => intro e); (case' h2 => intro e))
  | (with_reducible apply go_orL; (case h => walk_at "v"); (case' h1 => intro e); (case' h2 => intro e))
  | (with_reducible apply go_ifE; (case h => walk_at "v"))
  | (with_reducible apply go_ifOr; (case h => walk_at "w"); (case' h1 => intro e); (case' h2 => intro e))
  | (with_reducible apply go_ifAnd; (case h => walk_at "w"); (case' h1 => intro e); (case' h2 => intro e))
  | (with_reducible refine go_min ?_)
  | (with_reducible refine iteT ?_)
  | (with_reducible refine iteF ?_)
  | (with_reducible refine iteD (fun _ => ?_) (fun e => absurd rfl e))
  | (with_reducible refine iteS (fun e => ?_) (fun e => ?_))
  | (with_reducible refine iteI (fun e => ?_) (fun e => ?_))
  | (with_reducible refine iteSn (fun e => ?_) (fun e => ?_))
  | (with_reducible refine iteIn (fun e => ?_) (fun e => ?_))
  | (with_reducible refine iteD (fun e => ?_) (fun e => ?_))
  | (with_reducible refine iteDn (fun e => ?_) (fun e => ?_))
  | (with_reducible refine ite2 (fun e => ?_) (fun e => ?_))
  | (refine fun (p : Addr) (hp : _ = none) => ?_)
  | ((conv => whnf); walk_at "s2")
  | fail)
local macro_rules | `(tactic| walk_at "s") => `(tactic| repeat' (first
  | (with_reducible refine go_gcons ?_)
  | (with_reducible refine go_gnil ?_)
  | (with_reducible refine go_seqM ?_)
  | (with_reducible refine go_nextM ?_)
  | (with_reducible refine go_contM ?_)
  | (with_reducible refine go_brkM ?_)
  | (with_reducible refine go_retM ?_)
  | (with_reducible refine go_asgM ?_)
  | (with_reducible refine go_test ?_)
  | (with_reducible refine go_rI0 ?_)
  | (with_reducible refine go_op ?_)
  | (with_reducible refine go_var rfl ?_)
  | ((with_reducible show tFor (iRng1 _) _ _ _ _ _); refine (show iRng1 _ _ _ _ from ?_))
  | (with_reducible refine go_rng1 ?_)
  | (with_reducible refine go_c ?_)
  | (with_reducible apply go_pick; (case hs => walk_at "hp"); (case h0 => walk_at "cond"); (case h1 => walk_at "cond"); (case' q => intro k a b c h0 h1))
  | (with_reducible refine go_nil ?_)
  | (with_reducible refine go_cons ?_)
  | (with_reducible refine go_call ?_)
  | (with_reducible refine go_cb ?_)
  | (with_reducible refine go_next ?_)
  | (with_reducible refine go_cont ?_)
  | (with_reducible refine go_ret ?_)
  | (with_reducible refine go_name ?_)
  | (with_reducible refine go_seq ?_)
  | (with_reducible refine go_asg ?_)
  | (with_reducible apply go_or; (case h => walk_at "v"))
  | (with_reducible apply go_and; (case h => walk_at "v"))
  | (with_reducible apply go_andL; (case h => walk_at "v"); (case' h1 => intro e); (case' h2 => intro e))
  | (with_reducible apply go_orL; (case h => walk_at "v"); (case' h1 => intro e); (case' h2 => intro e))
  | (with_reducible apply go_ifE; (case h => walk_at "v"))
  | (with_reducible apply go_ifOr; (case h => walk_at "w"); (case' h1 => intro e); (case' h2 => intro e))
  | (with_reducible apply go_ifAnd; (case h => walk_at "w"); (case' h1 => intro e); (case' h2 => intro e))
  | (with_reducible refine go_min ?_)
  | (with_reducible refine iteT ?_)
  | (with_reducible refine iteF ?_)
  | (with_reducible refine iteD (fun _ => ?_) (fun e => absurd rfl e))
  | (with_reducible refine iteS (fun e => ?_) (fun e => ?_))
  | (with_reducible refine iteI (fun e => ?_) (fun e => ?_))
  | (with_reducible refine iteSn (fun e => ?_) (fun e => ?_))
  | (with_reducible refine iteIn (fun e => ?_) (fun e => ?_))
  | (with_reducible refine iteD (fun e => ?_) (fun e => ?_))
  | (with_reducible refine iteDn (fun e => ?_) (fun e => ?_))
  | (with_reducible refine ite2 (fun e => ?_) (fun e => ?_))
  | (refine fun (p : Addr) (hp : _ = none) => ?_)
  | ((conv => whnf); walk_at "s2")
  | fail))

/-! ### what stands in the dicts -/
/-- the users while they are laid -/
def UsB (H1 H2 : Hp) (u : Addr) (ls : List Int) (m : Nat) (M : Int → Int → Prop) (ok : List Int → Prop) : Prop := ∃ kvs : List (Key × V), H2 u = some (.dK kvs) ∧ kvs.length ≤ m ∧ (∀ x : Int, (valV kvs (Sum.inl x : Key)).isSome = decide (x ∈ ls.take m)) ∧
  (∀ (x : Int) (v : V), valV kvs (Sum.inl x : Key) = some v → ∃ (l : Addr) (us : List Int), v = .ref l ∧ H1 l = none ∧ Ints H2 l us ∧ (∀ y, y ∈ us ↔ M x y) ∧ ok us) ∧
  ∀ (x x' : Int) (l : Addr), valV kvs (Sum.inl x : Key) = some (.ref l) → valV kvs (Sum.inl x' : Key) = some (.ref l) → x = x'
theorem livL_up {rs : List Rw} {ws : List Int} : (livL rs ws).Pairwise (· < ·) := by
  unfold livL lives
  rw [List.pairwise_map]
  exact (List.pairwise_lt_range.filter _).imp fun h => by omega
theorem livL_few {rs : List Rw} {ws : List Int} : (livL rs ws).length ≤ rs.length := by
  unfold livL lives
  rw [List.length_map]
  refine Nat.le_trans (List.length_filter_le _ _) ?_
  rw [List.length_range]
  exact Nat.le_refl _
theorem take_low {ls : List Int} (up : ls.Pairwise (· < ·)) {i : Nat} {z y : Int} (hz : ls[i]? = some z) (hy : y ∈ ls.take i) : y < z := by
  obtain ⟨j, hj, ej⟩ := List.getElem_of_mem hy
  rw [List.length_take] at hj
  rw [List.getElem_take] at ej
  obtain ⟨hi, ei⟩ := List.getElem?_eq_some_iff.mp hz
  rw [← ej, ← ei]
  exact List.pairwise_iff_getElem.mp up j i (by omega) hi (by omega)
theorem fl_low {rs : List Rw} (w : WF rs) {ws : List Int} (hw : InR rs ws) {fk : List (List Key × V)} {n : Int} (F : Fl rs ws fk n) : n ≤ wgt rs (livL rs ws) := by
  have a := value_le w hw F.flow
  rw [← F.val] at a
  refine Int.le_trans a ?_
  unfold bnd wgt livL
  rw [List.map_map]
  refine sum_le_sum fun k _ => ?_
  have := szN_nn w k
  show _ ≤ szN rs ((k : Int).toNat)
  rw [Int.toNat_natCast]
  split <;> omega
theorem wgt_nn {rs : List Rw} (w : WF rs) : ∀ (l : List Int), 0 ≤ wgt rs l ∧ wgt rs l ≤ 3 * l.length
  | [] => ⟨Int.le_refl _, Int.le_refl _⟩
  | x :: l => by
    have h := wgt_nn w l
    unfold wgt at h ⊢
    rw [List.map_cons, List.sum_cons, List.length_cons]
    have a := szN_le w x.toNat
    have b := szN_nn w x.toNat
    push_cast
    omega
def cs (qs : List Nat) : List Int := qs.map fun (q : Nat) => (q : Int)
theorem cs_len {qs : List Nat} : (cs qs).length = qs.length := List.length_map ..
theorem cs_snoc {qs : List Nat} {q : Nat} : cs (qs ++ [q]) = cs qs ++ [(q : Int)] := by
  unfold cs
  rw [List.map_append]
  rfl
theorem cs_get {qs : List Nat} {j : Nat} {x : Int} (h : (cs qs)[j]? = some x) : ∃ q : Nat, x = (q : Int) ∧ qs[j]? = some q := by
  unfold cs at h
  rw [List.getElem?_map] at h
  cases e : qs[j]? with
  | none => rw [e] at h; cases h
  | some q =>
    rw [e] at h
    exact ⟨q, (Option.some.inj h).symm, rfl⟩
/-- where the search begins -/
def beg (rs : List Rw) (ws : List Int) : List Nat := ((lives rs ws).filter fun (n : Nat) => srcN rs (n : Int)).map fun n => 2 * n
theorem beg_cs {rs : List Rw} {ws : List Int} : ((livL rs ws).filter fun x => srcN rs x).map (fun x => 2 * x) = cs (beg rs ws) := by
  unfold livL cs beg
  rw [List.filter_map, List.map_map, List.map_map]
  refine List.map_congr_left fun n _ => ?_
  show 2 * (n : Int) = ((2 * n : Nat) : Int)
  omega
theorem beg_mem {rs : List Rw} {ws : List Int} {q : Nat} (h : q ∈ beg rs ws) : ∃ n r, q = 2 * n ∧ rs[n]? = some r ∧ liv rs ws (n : Int) = true ∧ r.src = true := by
  unfold beg at h
  obtain ⟨n, hn, rfl⟩ := List.mem_map.mp h
  rw [List.mem_filter] at hn
  unfold lives at hn
  rw [List.mem_filter, List.mem_range] at hn
  obtain ⟨⟨h1, h2⟩, h3⟩ := hn
  have e : rs[n]? = some rs[n] := List.getElem?_eq_getElem h1
  refine ⟨n, _, rfl, e, h2, ?_⟩
  unfold srcN at h3
  rw [Int.toNat_natCast, e] at h3
  exact h3
theorem beg_all {rs : List Rw} {ws : List Int} {n : Nat} {r : Rw} (e : rs[n]? = some r) (l : liv rs ws (n : Int) = true) (s : r.src = true) : 2 * n ∈ beg rs ws := by
  unfold beg lives
  refine List.mem_map.mpr ⟨n, List.mem_filter.mpr ⟨List.mem_filter.mpr ⟨List.mem_range.mpr (List.getElem?_eq_some_iff.mp e).1, l⟩, ?_⟩, rfl⟩
  unfold srcN
  rw [Int.toNat_natCast, e]
  exact s
theorem beg_nd {rs : List Rw} {ws : List Int} : (beg rs ws).Nodup := by
  unfold beg List.Nodup
  rw [List.pairwise_map]
  exact ((lives_nodup (rs := rs) (ws := ws)).filter _).imp fun h z => h (by omega)
/-- a begun point -/
theorem SrchX.begun {rs : List Rw} (w : WF rs) {ws : List Int} {f : Nat → Int} {j : Nat} {ck : List (Key × V)} (h : SrchX rs ws f ((beg rs ws).take j) ck) {q : Nat} (hq : (beg rs ws)[j]? = some q) : SrchX rs ws f ((beg rs ws).take (j + 1)) (putK ck (Sum.inl (q : Int)) (.int (-1))) := by
  obtain ⟨n, r, rfl, er, lv, s⟩ := beg_mem (List.mem_of_getElem? hq)
  have hl := (List.getElem?_eq_some_iff.mp er).1
  obtain ⟨i, hi, ei⟩ := mem_ar (arc_mem w (Arc.src (ws := ws) er lv s rfl))
  rw [take_snoc hq]
  refine h.put (i := i) (fw := true) (fun z => ?_) (by rw [show 2 * n / 2 = n from by omega]; exact ⟨hl, lv⟩) hi (by show (ar _ i).hi = _; rw [ei]) (by
    show ∀ c, (ar _ i).cap = some c → _
    rw [ei]
    intro c hc
    cases hc) (.inl ⟨by show (ar _ i).lo = _; rw [ei]; rfl, rfl⟩)
  obtain ⟨k, hk, ek⟩ := List.getElem_of_mem z
  rw [List.length_take] at hk
  rw [List.getElem_take] at ek
  obtain ⟨hj, ej⟩ := List.getElem?_eq_some_iff.mp hq
  exact List.pairwise_iff_getElem.mp (beg_nd (rs := rs) (ws := ws)) k j (by omega) hj (by omega) (ek.trans ej.symm)
def Shot (rs : List Rw) (ws : List Int) (fk : List (List Key × V)) (qs : List Nat) (q : Nat) : Prop := ∀ i fw, i < (arcs rs ws).length → begP (arcs rs ws) i fw = q → pass (arcs rs ws) (fA rs ws fk) i fw → endP (arcs rs ws) i fw = SS rs ∨ endP (arcs rs ws) i fw = NF.TT rs ∨ endP (arcs rs ws) i fw ∈ qs
def Wntd (ws : List Int) (q : Nat) : Prop := q % 2 = 1 ∧ ((q / 2 : Nat) : Int) ∈ ws
section
variable {P : Program} {w : World} {K : PySem.W.Frag} {mg : Str → Option Value} {base : Heap}
/-! ### a greatest flow -/
def spFlowX : Sp := fun vs H Q _ => ∃ (a k : Addr) (rs : List Rw) (ws : List Int), vs = [.ref a, .ref k] ∧ RowsT H a rs ∧ WF rs ∧ rs.length ≤ 20 ∧ Ints H k ws ∧ InR rs ws ∧
  ∀ (t F C : Addr) (n : Int) (qs : List Nat) (ck : List (Key × V)) (H' : Hp), Same H H' → H' t = some (.tup [.int n, .ref F, .ref C]) → H' C = some (.dK ck) → (∀ p : Nat, (valV ck (Sum.inl (p : Int) : Key)).isSome = decide (p ∈ qs)) → Fend rs ws n qs → Q (.ref t) H'
theorem ok_flowX (T : Top w K mg) : FnOk P w K mg base CX0 3 T.a_law_c_flow T.d_law_c_flow ["rows", "wanted"] spFlowX := by
  have G_law_c_living := ok_living (P := P) (w := w) (base := base) T
  have G_law_c_weight := ok_weight (P := P) (w := w) (base := base) T
  have G_law_c_next := ok_nextX (P := P) (w := w) (base := base) T
  refine T.F_law_c_flow.ok sc_law_c_flow (fun vs H Q E h => ?_) (fun cdv A0 outer s0 H vs Q E hr h => ?_)
  · obtain ⟨a, k, rs, ks, rfl, _⟩ := h
    rfl
  · obtain ⟨a, k, rs, ks, rfl, hR, hW, hn, hk, hin, q⟩ := h
    have hu := hu_of hr
    refine ⟨_, (pss_cons (ps_set (i := 2) sc_law_c_flow.nd rfl (.inl rfl) (pe_call G_law_c_living (hr.mono (by omega)) (by rfl) T.m_law_c_living T.F_law_c_living.kp T.b_law_c_living .nil pass0 (pa_cons (pv 0) (pa_cons (pv 1) pa_nil))))
    (pss_cons (ps_set (i := 3) sc_law_c_flow.nd rfl (.inl rfl) pe_dnewK)
    (pss_cons (ps_for PassesOwn.never rfl (pi_list (pv 2)) (pg_name (i := 4) sc_law_c_flow.nd rfl (.inl rfl))
    (pss_cons (ps_dput hu (pv 3) (pv 4) (pe_lst pa_nil) rfl)
    (pss_one (ps_for PassesOwn.never rfl (pi_tup (pe_ix ix_tup (pe_ix ix_list (pv 0) (pv 4) (fun _ _ => rfl)) pe_int (fun _ _ => rfl))) (pg_name (i := 5) sc_law_c_flow.nd rfl (.inl rfl))
    (pss_one (ps_if (PW.pt (pw_and (pt_cmp (pc_din hu (pv 5) (pv 3))) (pw_and1 (pt_cmpR op_notIn_seq (pv 4) (pe_dget hu (pv 3) (pv 5) (fun _ _ => rfl)) (by rfl)))))
    (pss_one (ps_expr (pe_bm PySem.F.plainAttrs_list PySem.F.slot_list_append PySem.F.type_list_append mt_append (pe_dget hu (pv 3) (pv 5) (fun _ _ => rfl)) (pa_cons (pv 4) pa_nil))))
    pss_nil))))))
    (pss_cons (ps_set (i := 6) sc_law_c_flow.nd rfl (.inl rfl) pe_dnewT)
    (pss_cons (ps_set (i := 7) sc_law_c_flow.nd rfl (.inl rfl) pe_int)
    (pss_cons (ps_for PassesOwn.never rfl (pi_range1 rfl T.m_range (pa_cons (pe_op op_add pe_int (pe_call G_law_c_weight (hr.mono (by omega)) (by rfl) T.m_law_c_weight T.F_law_c_weight.kp T.b_law_c_weight .nil pass0 (pa_cons (pv 0) (pa_cons (pv 2) pa_nil)))) pa_nil)) (pg_name (i := 8) sc_law_c_flow.nd rfl (.inl rfl))
    (pss_cons (ps_setLc (i := 9) (own := [("node", 4)]) rfl sc_law_c_flow.nd rfl rfl (sw_true rfl rfl rfl (by decide +kernel)) (pi_list (pv 2)) (blkOk_by (own := [("node", 4)]) (N := ["rows", "wanted", "living_v", "users", "node", "operand", "flow", "number", "turn", "queue", "came", "point", "last", "here", "there", "step", "before", "pair", "back"]) (sc := defScope s_law_c_flow) (by decide +kernel)) (fun _ _ _ _ _ => (pg_name (i := 4) sc_law_c_flow.nd rfl (.inl rfl))) (fun _ _ _ _ _ => pts_one (pt_val (pe_ix (ix_tupB (K := K) rfl) (pe_ix (ix_listB (K := K) rfl) (pv 0) (pv 4) (fun _ _ => rfl)) pe_int (fun _ _ => rfl)))) (fun _ _ _ _ _ => (pe_op op_mul pe_int (pv 4))))
    (pss_cons (ps_set (i := 10) sc_law_c_flow.nd rfl (.inl rfl) pe_dnewK)
    (pss_cons (ps_for PassesOwn.never rfl (pi_list (pv 9)) (pg_name (i := 11) sc_law_c_flow.nd rfl (.inl rfl))
    (pss_one (ps_dput hu (pv 10) (pv 11) (pe_un un_neg pe_int) rfl)))
    (pss_cons (ps_set (i := 12) sc_law_c_flow.nd rfl (.inl rfl) (pe_un un_neg pe_int))
    (pss_cons (ps_for PassesOwn.never rfl (pi_range1 rfl T.m_range (pa_cons (pe_op op_add (pe_op op_mul pe_int (pe_callB call_len_seq (by rfl) T.m_len (by decide +kernel) (pa_cons (pv 2) pa_nil))) pe_int) pa_nil)) (pg_name (i := 11) sc_law_c_flow.nd rfl (.inl rfl))
    (pss_one (ps_if (PW.pt (pw_and (pt_cmpR op_lt (pv 11) (pe_callB call_len_seq (by rfl) T.m_len (by decide +kernel) (pa_cons (pv 9) pa_nil)) (nomark _)) (pw_and1 (pt_cmpR op_lt (pv 12) pe_int (nomark _)))))
    (pss_cons (ps_set (i := 13) sc_law_c_flow.nd rfl (.inl rfl) (pe_ix ix_list (pv 9) (pv 11) (fun _ _ => rfl)))
    (Evl.pss_cut (ps_if (PW.pt (pw_and (pt_cmpR op_ne (pe_op op_mul (pe_op op_fdiv (pv 13) pe_int) pe_int) (pv 13) (nomark _)) (pw_and1 (pt_cmpR op_in_seq (pe_op op_fdiv (pv 13) pe_int) (pv 1) (by rfl)))))
    (pss_one (ps_set (i := 12) sc_law_c_flow.nd rfl (.inl rfl) (pv 13)))
    pss_nil)
    (pss_one (ps_for PassesOwn.never rfl (pi_list (pe_call G_law_c_next (hr.mono (by omega)) (by rfl) T.m_law_c_next T.F_law_c_next.kp T.b_law_c_next .nil pass0 (pa_cons (pv 0) (pa_cons (pv 1) (pa_cons (pv 2) (pa_cons (pv 3) (pa_cons (pv 6) (pa_cons (pv 13) pa_nil)))))))) (pg_name (i := 14) sc_law_c_flow.nd rfl (.inl rfl))
    (pss_one (ps_if (pt_cmp (pc_dnotin hu (pv 14) (pv 10)))
    (pss_cons (ps_dput hu (pv 10) (pv 14) (pv 13) rfl)
    (pss_one (ps_expr (pe_bm PySem.F.plainAttrs_list PySem.F.slot_list_append PySem.F.type_list_append mt_append (pv 9) (pa_cons (pv 14) pa_nil)))))
    pss_nil))))))
    pss_nil)))
    (pss_cons (ps_if (pt_cmpR op_lt (pv 12) pe_int (nomark _))
    (pss_one (ps_ret (pe_tup (pa_cons (pv 7) (pa_cons (pv 6) (pa_cons (pv 10) pa_nil))))))
    pss_nil)
    (pss_cons (ps_aug (i := 7) sc_law_c_flow.nd rfl (.inl rfl) pe_int ip_add)
    (pss_cons (ps_dput hu (pv 6) (pe_tup (pa_cons (pe_op op_fdiv (pv 12) pe_int) (pa_cons (pe_un un_neg pe_int) pa_nil))) (pe_op op_add (pe_dget2 hu (pv 6) (pe_tup (pa_cons (pe_op op_fdiv (pv 12) pe_int) (pa_cons (pe_un un_neg pe_int) pa_nil))) pe_int ⟨rfl, rfl, rfl, rfl⟩) pe_int) rfl)
    (pss_one (ps_for PassesOwn.never rfl (pi_range1 rfl T.m_range (pa_cons (pe_op op_add (pe_op op_mul pe_int (pe_callB call_len_seq (by rfl) T.m_len (by decide +kernel) (pa_cons (pv 2) pa_nil))) pe_int) pa_nil)) (pg_name (i := 15) sc_law_c_flow.nd rfl (.inl rfl))
    (pss_one (ps_if (pt_cmpR op_ge (pv 12) pe_int (nomark _))
    (pss_cons (ps_set (i := 16) sc_law_c_flow.nd rfl (.inl rfl) (pe_dget hu (pv 10) (pv 12) (fun _ _ => rfl)))
    (Evl.pss_cut (ps_set (i := 17) sc_law_c_flow.nd rfl (.inl rfl) (pe_ifExp (pt_cmpR op_ge (pv 16) pe_int (nomark _)) (pe_tup (pa_cons (pe_op op_fdiv (pv 16) pe_int) (pa_cons (pe_op op_fdiv (pv 12) pe_int) pa_nil))) (pe_tup (pa_cons (pe_un un_neg pe_int) (pa_cons (pe_op op_fdiv (pv 12) pe_int) pa_nil)))))
    (Evl.pss_cut (ps_set (i := 18) sc_law_c_flow.nd rfl (.inl rfl) (pe_and (pe_cmpR op_ge (pv 16) pe_int (nomark _)) (pe_one (pe_cmpR op_eq (pe_cmpR op_eq (pv 12) (pe_op op_mul pe_int (pe_ix ix_tup (pv 17) pe_int (fun _ _ => rfl))) (nomark _)) (pe_cmpR op_eq (pe_ix ix_tup (pv 17) pe_int (fun _ _ => rfl)) (pe_ix ix_tup (pv 17) pe_int (fun _ _ => rfl)) (nomark _)) (nomark _)))))
    (Evl.pss_cut (ps_if (PW.pt (pw_and (pt_val (pv 18)) (pw_and1 (pt_cmpR op_ne (pe_ix ix_tup (pv 17) pe_int (fun _ _ => rfl)) (pe_ix ix_tup (pv 17) pe_int (fun _ _ => rfl)) (nomark _)))))
    (pss_one (ps_set (i := 17) sc_law_c_flow.nd rfl (.inl rfl) (pe_tup (pa_cons (pe_ix ix_tup (pv 17) pe_int (fun _ _ => rfl)) (pa_cons (pe_ix ix_tup (pv 17) pe_int (fun _ _ => rfl)) pa_nil)))))
    pss_nil)
    (pss_cons (ps_dput hu (pv 6) (pv 17) (pe_op op_add (pe_dget2 hu (pv 6) (pv 17) pe_int ⟨rfl, rfl, rfl, rfl⟩) (pe_ifExp (pt_val (pv 18)) (pe_un un_neg pe_int) pe_int)) rfl)
    (pss_one (ps_set (i := 12) sc_law_c_flow.nd rfl (.inl rfl) (pv 16))))))))
    pss_nil)))))))))))))
    (pss_one (ps_ret (pe_tup (pa_cons (pv 7) (pa_cons (pv 6) (pa_cons pe_dnewK pa_nil)))))))))))), ?_⟩
    walk_at "s"
    refine ⟨a, k, rs, ks, rfl, hR, hW, hn, hk, hin, fun lv H1 sm1 nlv hlv => ?_⟩
    obtain ⟨ls, els⟩ : ∃ ls, livL rs ks = ls := ⟨_, rfl⟩
    have hll : ls.length ≤ 20 := by
      rw [← els]
      exact Nat.le_trans livL_few hn
    have up : ls.Pairwise (· < ·) := by
      rw [← els]
      exact livL_up
    have hls : ∀ x ∈ ls, 0 ≤ x ∧ x < (rs.length : Int) := fun x hx => by
      rw [← els] at hx
      obtain ⟨n, rfl, h1, _⟩ := livL_iff.mp hx
      omega
    rw [els] at hlv
    walk_at "s"
    rename_i u nu
    have hlv' : H1 lv = some (.lst (ls.map V.int)) := hlv
    have hll2 : (ls.map V.int).length ≤ 20 := by
      rw [List.length_map]
      exact hll
    obtain ⟨xs, hX, hE⟩ := hR.same sm1
    have hXl := hE.len
    refine for_listQ (xs := ls.map V.int) Q rfl (fun i σ H2 => ∃ v4 v5 : Option V, σ = [some (.ref a), some (.ref k), some (.ref lv), some (.ref u), v4, v5, none, none, none, none, none, none, none, none, none, none, none, none, none] ∧ Same H1 H2 ∧ UsB H1 H2 u ls i (fun x y => y ∈ ls.take i ∧ x ∈ opsN rs y) fun us => us.length ≤ i) ?_ ?_ ?_ ?_
    · exact ⟨_, _, rfl, same_new nu, [], upd_same, Nat.le_refl _, fun x => rfl, fun x v e => (by cases e), fun x x' l e => (by cases e)⟩
    · intro i σ H2 hi hP
      obtain ⟨v4, v5, rfl, sm, _⟩ := hP
      exact SqL.of (sm _ _ hlv')
    · intro N X i x σ H2 hi hP hN
      obtain ⟨v4, v5, rfl, sm, kvs, h1, h2, h3, h4, h5⟩ := hP
      obtain ⟨z, rfl, hz⟩ := map_get hi
      have hzl : z ∈ ls := List.mem_of_getElem? hz
      obtain ⟨z0, z1⟩ := hls z hzl
      have hil := (List.getElem?_eq_some_iff.mp hz).1
      have er : rs[z.toNat]? = some rs[z.toNat] := List.getElem?_eq_getElem (by omega)
      obtain ⟨u0, eu, t, o, rfl, ht, ho⟩ := hE.get er
      have hat : atI xs z = some (.ref t) := by
        rw [show z = ((z.toNat : Nat) : Int) from by omega]
        exact atI_nat eu
      have nau : a ≠ u := ne_of_none hX nu
      have ntu : t ≠ u := ne_of_none ht nu
      have nou : o ≠ u := ne_of_none ho nu
      have hX2 := sm _ _ hX
      have ht2 := sm _ _ ht
      have hok := hW _ _ er
      have eops : opsN rs z = rs[z.toNat].ops := by
        unfold opsN
        rw [er]
      have ho0 : H1 o = some (.tup (rs[z.toNat].ops.map V.int)) := ho
      have ho2 := sm _ _ ho0
      generalize rs[z.toNat] = r at hok eops ho0 ho2 ht ht2
      walk_at "s"
      rename_i L hL
      refine ⟨u, _, rfl, DPut.k (k := Sum.inl z) (by walk_at "hp") (sz_less (by omega)), ?_⟩
      have nLu : L ≠ u := (ne_of_none h1 hL).symm
      have smL : Same H1 (upd (upd H2 L (.lst [])) u (.dK (putK kvs (Sum.inl z) (.ref L)))) := same_mut (sm.trans (same_new hL)) nu
      have zlow : ∀ y ∈ ls.take i, z ∉ opsN rs y := fun y hy hz2 => by
        have hy2 := hls y (List.mem_of_mem_take hy)
        have ey : rs[y.toNat]? = some rs[y.toNat] := List.getElem?_eq_getElem (by omega)
        unfold opsN at hz2
        rw [ey] at hz2
        have := ((hW _ _ ey).2.1 z hz2).2
        have := take_low up hz hy
        omega
      walk_at "s"
      refine for_tupQ (xs := r.ops.map V.int) Q rfl (fun j σ H3 => ∃ v5 : Option V, σ = [some (.ref a), some (.ref k), some (.ref lv), some (.ref u), some (.int z), v5, none, none, none, none, none, none, none, none, none, none, none, none, none] ∧ Same H1 H3 ∧
        UsB H1 H3 u ls (i + 1) (fun x y => (y ∈ ls.take i ∧ x ∈ opsN rs y) ∨ (y = z ∧ x ∈ r.ops.take j)) fun us => us.length ≤ i ∨ (us.length ≤ i + 1 ∧ z ∈ us)) ?_ ?_ ?_ ?_
      · have kn : valV kvs (Sum.inl z : Key) = none := by
          have := h3 z
          rw [decide_eq_false (fun hy => by have := take_low up hz hy; omega)] at this
          cases e : valV kvs (Sum.inl z : Key) with
          | none => rfl
          | some v =>
            rw [e] at this
            cases this
        have vp : ∀ x : Int, valV (putK kvs (Sum.inl z) (.ref L)) (Sum.inl x : Key) = if x = z then some (.ref L) else valV kvs (Sum.inl x : Key) := fun x => by
          rw [valV_put]
          by_cases e : x = z
          · rw [if_pos e, if_pos (by rw [e])]
          · rw [if_neg e, if_neg]
            intro q
            injection q with q
            exact e q
        refine ⟨_, rfl, smL, _, upd_same, ?_, fun x => ?_, fun x v e => ?_, fun x x' l e e' => ?_⟩
        · rw [putK_new _ kn, List.length_append, List.length_singleton]
          omega
        · rw [vp, take_snoc hz]
          by_cases e : x = z
          · rw [if_pos e, e, decide_eq_true (by simp)]
            rfl
          · rw [if_neg e, h3]
            refine decide_eq_decide.mpr ⟨fun q => List.mem_append_left _ q, fun q => (List.mem_append.mp q).elim id fun q => ?_⟩
            rw [List.mem_singleton] at q
            exact absurd q e
        · rw [vp] at e
          by_cases hk : x = z
          · rw [if_pos hk] at e
            cases e
            refine ⟨L, [], rfl, sm.free hL, (upd_ne nLu).trans upd_same, fun y => ⟨(fun q => by cases q), fun q => ?_⟩, .inl (Nat.zero_le _)⟩
            rcases q with ⟨q1, q2⟩ | ⟨_, q2⟩
            · rw [hk] at q2
              exact absurd q2 (zlow y q1)
            · cases q2
          · rw [if_neg hk] at e
            obtain ⟨l, us, e1, e2, e3, e4, e5⟩ := h4 x v e
            have nlu : l ≠ u := ne_of e3 h1 (by intro z; cases z)
            refine ⟨l, us, e1, e2, (upd_ne nlu).trans (hp_new e3 hL), fun y => (e4 y).trans ⟨.inl, fun q => q.elim id fun q => ?_⟩, .inl e5⟩
            cases q.2
        · rw [vp] at e e'
          have nl : ∀ y : Int, valV kvs (Sum.inl y : Key) = some (.ref L) → False := fun y ey => by
            obtain ⟨l, us, e1, _, e3, _⟩ := h4 y _ ey
            injection e1 with e1
            rw [← e1] at e3
            rw [e3] at hL
            cases hL
          by_cases c1 : x = z <;> by_cases c2 : x' = z
          · rw [c1, c2]
          · rw [if_pos c1] at e
            rw [if_neg c2] at e'
            cases e
            exact (nl _ e').elim
          · rw [if_neg c1] at e
            rw [if_pos c2] at e'
            cases e'
            exact (nl _ e).elim
          · rw [if_neg c1] at e
            rw [if_neg c2] at e'
            exact h5 x x' l e e'
      · intro j σ H3 hj hP
        obtain ⟨v5, rfl, sm3, _⟩ := hP
        exact SqT.of (sm3 _ _ ho0)
      · intro N2 X2 j x σ H3 hj hP hN2
        obtain ⟨v5, rfl, sm3, kvs, g1, g2, g3, g4, g5⟩ := hP
        obtain ⟨y, rfl, hy⟩ := map_get hj
        walk_at "s"
        refine ⟨u, _, rfl, DGet.k (k := Sum.inl y) g1, ?_⟩
        have tk : ∀ x : Int, x ∈ r.ops.take (j + 1) ↔ x ∈ r.ops.take j ∨ x = y := fun x => by
          rw [take_snoc hy, List.mem_append, List.mem_singleton]
        cases ey : valV kvs (Sum.inl y : Key) with
        | none =>
          rw [show (none : Option V).isSome = false from rfl]
          walk_at "s"
          refine hN2 _ _ ⟨_, rfl, sm3, kvs, g1, g2, g3, fun x v e => ?_, g5⟩
          obtain ⟨l, us, e1, e2, e3, e4, e5⟩ := g4 x v e
          refine ⟨l, us, e1, e2, e3, fun y' => (e4 y').trans ?_, e5⟩
          dsimp only
          rw [tk]
          refine ⟨fun q => q.imp id fun q => ⟨q.1, .inl q.2⟩, fun q => q.imp id fun q => ⟨q.1, q.2.elim id fun q => ?_⟩⟩
          rw [q, ey] at e
          cases e
        | some v =>
          obtain ⟨l, us, rfl, nl, hl, hus, hlen⟩ := g4 _ _ ey
          have hl' : H3 l = some (.lst (us.map V.int)) := hl
          have hul : us.length ≤ i + 1 := by
            rcases hlen with h | h
            · exact Nat.le_succ_of_le h
            · exact h.1
          rw [show (some (V.ref l)).isSome = true from rfl]
          walk_at "s"
          refine ⟨u, .ref l, rfl, by rw [← ey]; exact DGet.k (k := Sum.inl y) g1, ?_⟩
          walk_at "s"
          refine ⟨flat_ints, ?_⟩
          rw [show (if true = true then !inV (V.int z) (us.map V.int) else inV (V.int z) (us.map V.int)) = !inV (V.int z) (us.map V.int) from rfl, inV_int]
          refine ⟨_, rfl, ?_⟩
          by_cases e : z ∈ us
          · rw [decide_eq_true e]
            refine iteF ?_
            walk_at "s"
            refine hN2 _ _ ⟨_, rfl, sm3, kvs, g1, g2, g3, fun x v e6 => ?_, g5⟩
            obtain ⟨l', us', e1, e2, e3, e4, e5⟩ := g4 x v e6
            refine ⟨l', us', e1, e2, e3, fun y' => (e4 y').trans ?_, e5⟩
            dsimp only
            rw [tk]
            refine ⟨fun q => q.imp id fun q => ⟨q.1, .inl q.2⟩, fun q => q.elim .inl fun q => q.2.elim (fun k => .inr ⟨q.1, k⟩) fun k => ?_⟩
            rw [q.1, k]
            exact (hus z).mp e
          · rw [decide_eq_false e]
            refine iteT ?_
            have hul2 : us.length ≤ i := by
              rcases hlen with h | h
              · exact h
              · exact absurd h.2 e
            have hml : (us.map V.int).length ≤ 20 := by
              rw [List.length_map]
              omega
            walk_at "s"
            refine ⟨u, .ref l, rfl, by rw [← ey]; exact DGet.k (k := Sum.inl y) g1, ?_⟩
            walk_at "s"
            have nul : u ≠ l := ne_of g1 hl' (by intro z; cases z)
            refine hN2 _ _ ⟨_, rfl, same_mut sm3 nl, kvs, (upd_ne nul).trans g1, g2, g3, fun x v e6 => ?_, g5⟩
            obtain ⟨l', us', e1, e2, e3, e4, e5⟩ := g4 x v e6
            by_cases el : l' = l
            · subst el
              subst e1
              have exy := g5 x y l' e6 ey
              subst exy
              refine ⟨l', us ++ [z], rfl, e2, ?_, fun y' => ?_, .inr ⟨by simp; omega, by simp⟩⟩
              · show upd _ _ _ _ = _
                rw [upd_same, nums_snoc]
              · rw [List.mem_append, List.mem_singleton, hus]
                dsimp only
                rw [tk]
                constructor
                · rintro ((q | q) | q)
                  · exact .inl q
                  · exact .inr ⟨q.1, .inl q.2⟩
                  · exact .inr ⟨q, .inr rfl⟩
                · rintro (q | ⟨q1, q2 | q2⟩)
                  · exact .inl (.inl q)
                  · exact .inl (.inr ⟨q1, q2⟩)
                  · exact .inr q1
            · refine ⟨l', us', e1, e2, (upd_ne el).trans e3, fun y' => (e4 y').trans ?_, e5⟩
              dsimp only
              rw [tk]
              refine ⟨fun q => q.imp id fun q => ⟨q.1, .inl q.2⟩, fun q => q.imp id fun q => ⟨q.1, q.2.elim id fun q => ?_⟩⟩
              subst e1
              rw [q, ey] at e6
              injection e6 with e6
              injection e6 with e6
              exact absurd e6.symm el
      · intro σ H3 hP
        obtain ⟨v5, rfl, sm3, kvs, g1, g2, g3, g4, g5⟩ := hP
        rw [List.length_map, List.take_length] at g4
        refine hN _ _ ⟨_, _, rfl, sm3, kvs, g1, g2, g3, fun x v e => ?_, g5⟩
        obtain ⟨l, us, e1, e2, e3, e4, e5⟩ := g4 x v e
        refine ⟨l, us, e1, e2, e3, fun y => (e4 y).trans ?_, by omega⟩
        dsimp only
        rw [take_snoc hz, List.mem_append, List.mem_singleton, ← eops]
        constructor
        · rintro (q | ⟨q1, q2⟩)
          · exact ⟨.inl q.1, q.2⟩
          · exact ⟨.inr q1, by rw [q1]; exact q2⟩
        · rintro ⟨q1 | q1, q2⟩
          · exact .inl ⟨q1, q2⟩
          · exact .inr ⟨q1, by rw [← q1]; exact q2⟩
    · intro σ H2 hP
      obtain ⟨v4, v5, rfl, sm, kvs, h1, h2, h3, h4, h5⟩ := hP
      rw [List.length_map] at h3 h4
      have hU : UsersX H2 u rs ls := ⟨kvs, h1, fun x hx => by
        have hv := h3 x
        rw [List.take_length, decide_eq_true hx] at hv
        cases ev : valV kvs (Sum.inl x : Key) with
        | none =>
          rw [ev] at hv
          cases hv
        | some v =>
          obtain ⟨l, us, e1, e2, e3, e4, e5⟩ := h4 _ _ ev
          rw [List.take_length] at e4
          exact ⟨l, us, by rw [e1], e3, e4, by omega⟩⟩
      have hX2 := sm _ _ hX
      have hlv2 := sm _ _ hlv'
      have hR2 : RowsT H2 a rs := (hR.same sm1).same sm
      walk_at "s"
      rename_i F nF
      have hF0 : Same H2 (upd H2 F (.dT [])) := same_new nF
      have hlv3 := hF0 _ _ hlv2
      refine ⟨a, lv, rs, ls, rfl, hR2.same hF0, hlv3, hls, hll, hW, fun H3 sm3 => ?_⟩
      have hF3 := sm3 _ _ (upd_same (H := H2) (a := F) (o := .dT []))
      have sm23 : Same H2 H3 := hF0.trans sm3
      have hkH2 : H2 k = some (.lst (ks.map V.int)) := sm _ _ (sm1 _ _ hk)
      obtain ⟨w0, w1⟩ := wgt_nn hW ls
      have wmax : ∀ {fk : List (List Key × V)} {n : Int}, Fl rs ks fk n → n ≤ wgt rs ls := fun F => by
        rw [← els]
        exact fl_low hW hin F
      generalize wgt rs ls = wn at w0 w1 wmax
      walk_at "s"
      refine for_rangeQ (lo := 0) (n := (1 + wn).toNat) Q rfl (fun i σ H4 => ∃ (v4 v5 v8 v9 v10 v11 v12 v13 v14 v15 v16 v17 v18 : Option V) (fk : List (List Key × V)),
        σ = [some (.ref a), some (.ref k), some (.ref lv), some (.ref u), v4, v5, some (.ref F), some (.int (i : Int)), v8, v9, v10, v11, v12, v13, v14, v15, v16, v17, v18] ∧ Same H2 H4 ∧ H4 F = some (.dT fk) ∧ Fl rs ks fk i ∧ fk.length ≤ 100 * i) ?_ ?_ ?_
      · exact ⟨_, _, _, _, _, _, _, _, _, _, _, _, _, [], rfl, sm23, hF3, Fl.nil hW, Nat.le_refl _⟩
      · intro N X i σ H4 hi hP hN
        obtain ⟨v4, v5, v8, v9, v10, v11, v12, v13, v14, v15, v16, v17, v18, fk, rfl, sm4, hF, hFK, hFl⟩ := hP
        have hlv4 := sm4 _ _ hlv2
        have hi70 : i ≤ 70 := by omega
        simp only [Int.zero_add]
        walk_at "s"
        rename_i B hB
        refine lc_list (xs := ls.map V.int) (fun j H5 => Same H4 H5 ∧ Ints H5 B (((ls.take j).filter fun x => srcN rs x).map fun x => 2 * x)) ?_ ?_ ?_ ?_
        · exact ⟨same_new hB, upd_same⟩
        · intro j H5 hj hP
          exact SqL.of (hP.1 _ _ hlv4)
        · intro j x H5 hj hP
          obtain ⟨sm5, b1⟩ := hP
          obtain ⟨z, rfl, hz⟩ := map_get hj
          have hzl : z ∈ ls := List.mem_of_getElem? hz
          obtain ⟨z0, z1⟩ := hls z hzl
          have hjl := (List.getElem?_eq_some_iff.mp hz).1
          have er : rs[z.toNat]? = some rs[z.toNat] := List.getElem?_eq_getElem (by omega)
          obtain ⟨u0, eu, t, o, rfl, ht, ho⟩ := hE.get er
          have hat : atI xs z = some (.ref t) := by
            rw [show z = ((z.toNat : Nat) : Int) from by omega]
            exact atI_nat eu
          have esr : srcN rs z = rs[z.toNat].src := by
            unfold srcN
            rw [er]
          have hX5 := sm5 _ _ (sm4 _ _ hX2)
          have ht5 := sm5 _ _ (sm4 _ _ (sm _ _ ht))
          have bl : ((ls.take j).filter fun x => srcN rs x).length ≤ 20 := by
            have := List.length_filter_le (fun x => srcN rs x) (ls.take j)
            rw [List.length_take] at this
            omega
          walk_at "s"
          · rename_i e
            refine ⟨_, b1, sz_less (by rw [List.length_map, List.length_map]; omega), same_mut sm5 hB, ?_⟩
            show upd _ _ _ _ = _
            rw [upd_same, filter_snoc hz, if_pos (by rw [esr]; exact e), List.map_append, List.map_append]
            rfl
          · rename_i e
            have b6 : H5 B = some (.lst ((((ls.take (j + 1)).filter fun x => srcN rs x).map fun x => 2 * x).map V.int)) := by
              rw [b1, filter_snoc hz, if_neg (by rw [esr]; exact e), List.append_nil]
            first | exact ⟨sm5, b6⟩ | exact b6
        · intro H5 hP
          obtain ⟨sm5, b1⟩ := hP
          rw [List.length_map, List.take_length, ← els, beg_cs] at b1
          have b1' : H5 B = some (.lst ((cs (beg rs ks)).map V.int)) := b1
          have hbl : (beg rs ks).length ≤ 20 := by
            unfold beg
            rw [List.length_map]
            have := List.length_filter_le (fun (n : Nat) => srcN rs (n : Int)) (lives rs ks)
            have e : (livL rs ks).length = (lives rs ks).length := by
              unfold livL
              rw [List.length_map]
            rw [els] at e
            omega
          have nB : H2 B = none := sm4.free hB
          walk_at "s"
          rename_i C nC
          have b16 : upd H5 C (.dK []) B = some (.lst ((cs (beg rs ks)).map V.int)) := hp_new b1' nC
          have sm6 : Same H5 (upd H5 C (.dK [])) := same_new nC
          have nBC : B ≠ C := ne_of_none b1' nC
          refine for_listQ (xs := (cs (beg rs ks)).map V.int) Q rfl (fun j σ H6 => ∃ (v11 : Option V) (ck : List (Key × V)), σ = [some (.ref a), some (.ref k), some (.ref lv), some (.ref u), v4, v5, some (.ref F), some (.int (i : Int)), some (.int (i : Int)), some (.ref B), some (.ref C), v11, v12, v13, v14, v15, v16, v17, v18] ∧
            Same H5 H6 ∧ H6 C = some (.dK ck) ∧ SrchX rs ks (fA rs ks fk) ((beg rs ks).take j) ck) ?_ ?_ ?_ ?_
          · exact ⟨_, [], rfl, sm6, upd_same, SrchX.nil⟩
          · intro j σ H6 hj hP
            obtain ⟨v11, ck, rfl, sm7, _⟩ := hP
            exact SqL.of (sm7 _ _ b1')
          · intro N2 X2 j x σ H6 hj hP hN2
            obtain ⟨v11, ck, rfl, sm7, c1, c2⟩ := hP
            obtain ⟨z', rfl, hz'⟩ := map_get hj
            obtain ⟨z, rfl, hz⟩ := cs_get hz'
            have hjl := (List.getElem?_eq_some_iff.mp hz).1
            have c2l := c2.len
            rw [List.length_take] at c2l
            walk_at "s"
            refine ⟨C, _, rfl, DPut.k (k := Sum.inl (z : Int)) c1 (sz_less (by omega)), ?_⟩
            walk_at "s"
            exact hN2 _ _ ⟨_, _, rfl, same_mut sm7 nC, upd_same, c2.begun hW hz⟩
          · intro σ H6 hP
            obtain ⟨v11, ck, rfl, sm7, c1, c2⟩ := hP
            rw [List.length_map, cs_len, List.take_length] at c2
            have b17 := sm7 _ _ b1'
            have hlv6 := sm7 _ _ (sm5 _ _ hlv4)
            have hF6 := sm7 _ _ (sm5 _ _ hF)
            have sm26 : Same H2 H6 := (sm4.trans sm5).trans sm7
            have nC2 : H2 C = none := (sm4.trans sm5).free nC
            have nC4 : H4 C = none := sm5.free nC
            have nB4 : H4 B = none := hB
            walk_at "s"
            refine for_rangeQ (lo := 0) (n := (2 * ((ls.map V.int).length : Int) + 2).toNat) Q rfl (fun j σ H7 => ∃ (v11 v13 v14 : Option V) (last : Int) (qs : List Nat) (ck : List (Key × V)), σ = [some (.ref a), some (.ref k), some (.ref lv), some (.ref u), v4, v5, some (.ref F), some (.int (i : Int)), some (.int (i : Int)), some (.ref B), some (.ref C), v11, some (.int last), v13, v14, v15, v16, v17, v18] ∧
              Same H4 H7 ∧ H7 B = some (.lst ((cs qs).map V.int)) ∧ H7 C = some (.dK ck) ∧ SrchX rs ks (fA rs ks fk) qs ck ∧ (∀ q ∈ beg rs ks, q ∈ qs) ∧ ((last = -1 ∧ ∀ (j' q : Nat), j' < j → qs[j']? = some q → Shot rs ks fk qs q ∧ ¬ Wntd ks q) ∨ ∃ m jm : Nat, last = ((2 * m + 1 : Nat) : Int) ∧ qs[jm]? = some (2 * m + 1) ∧ (m : Int) ∈ ks)) ?_ ?_ ?_
            · exact ⟨_, _, _, _, beg rs ks, ck, rfl, sm5.trans sm7, b17, c1, c2, fun q h => h, .inl ⟨rfl, fun j' q h => absurd h (Nat.not_lt_zero _)⟩⟩
            · intro N2 X2 j σ H7 hj hP hN2
              obtain ⟨v11, v13, v14, last, qs, ck, rfl, sm8, d1, d2, d3, d4, d5⟩ := hP
              have d1' : H7 B = some (.lst ((cs qs).map V.int)) := d1
              have qsl := d3.few
              rw [els] at qsl
              have sm28 : Same H2 H7 := sm4.trans sm8
              have hk7 := sm28 _ _ hkH2
              simp only [Int.zero_add]
              walk_at "s"
              · rename_i e1 e2
                have el : last = -1 ∧ ∀ (j' q : Nat), j' < j → qs[j']? = some q → Shot rs ks fk qs q ∧ ¬ Wntd ks q := by
                  rcases d5 with h | ⟨m, jm, h, _⟩
                  · exact h
                  · omega
                obtain ⟨rfl, old⟩ := el
                have hjp : j < qs.length := by
                  rw [List.length_map, cs_len] at e1
                  omega
                have hq := List.getElem?_eq_getElem hjp
                generalize qs[j] = here at hq
                have hat : atI ((cs qs).map V.int) (j : Int) = some (.int (here : Nat)) := atI_nat (by
                  unfold cs
                  rw [List.getElem?_map, List.getElem?_map, hq]
                  rfl)
                have pt := d3.pts _ (List.mem_of_getElem? hq)
                refine ⟨_, _, _, _, rfl, rfl, SqL.of d1', hat, ?_⟩
                walk_at "s"
                refine go_cutM (fun σ' H' => ∃ last : Int, σ' = [some (.ref a), some (.ref k), some (.ref lv), some (.ref u), v4, v5, some (.ref F), some (.int (i : Int)), some (.int (i : Int)), some (.ref B), some (.ref C), some (.int (j : Int)), some (.int last), some (.int (here : Nat)), v14, v15, v16, v17, v18] ∧ H' = H7 ∧ ((last = (here : Nat) ∧ Wntd ks here) ∨ (last = -1 ∧ ¬ Wntd ks here))) ?_ fun σ' H' hM => ?_
                · have hdiv : ((here : Nat) : Int) / 2 = ((here / 2 : Nat) : Int) := by omega
                  walk_at "s"
                  · rename_i e3
                    refine ⟨flat_ints, inV (V.int ((here : Int) / 2)) (ks.map V.int), rfl, ?_⟩
                    rw [inV_int]
                    by_cases e : (here : Int) / 2 ∈ ks
                    · rw [decide_eq_true e]
                      refine iteT ?_
                      walk_at "s"
                      exact .inl ⟨rfl, by omega, by rw [← hdiv]; exact e⟩
                    · rw [decide_eq_false e]
                      refine iteF ?_
                      walk_at "s"
                      exact .inr ⟨rfl, fun h => e (by rw [hdiv]; exact h.2)⟩
                  · rename_i e3
                    exact .inr ⟨rfl, fun h => by have := h.1; omega⟩
                obtain ⟨last, rfl, hH7, hlast⟩ := hM
                replace hH7 := hH7.symm
                subst hH7
                have hR7 : RowsT H7 a rs := hR2.same sm28
                have hF7 := sm8 _ _ hF
                have hdiv : ((here : Nat) : Int) / 2 = ((here / 2 : Nat) : Int) := by omega
                walk_at "s"
                refine ⟨a, k, lv, u, F, rs, ls, fk, (here : Nat), rfl, hR7, hW, hn, hls, hU.same sm28, hF7, hFK.kx, by omega, by rw [hdiv, ← els]; exact livL_iff.mpr ⟨_, rfl, pt.1, pt.2⟩, fun l H8 ts smn nl hl hnx htl => ?_⟩
                rw [← els] at hnx
                obtain ⟨nx1, nx2⟩ := next_spec hW hFK.off pt.1 pt.2 hnx
                walk_at "s"
                have hl' : H8 l = some (.lst (ts.map V.int)) := hl
                have nlB : l ≠ B := (ne_of_none d1' nl).symm
                have nlC : l ≠ C := (ne_of_none d2 nl).symm
                refine for_listQ (xs := ts.map V.int) Q rfl (fun n σ H9 => ∃ (v14 : Option V) (ex : List Nat) (ck : List (Key × V)), σ = [some (.ref a), some (.ref k), some (.ref lv), some (.ref u), v4, v5, some (.ref F), some (.int (i : Int)), some (.int (i : Int)), some (.ref B), some (.ref C), some (.int (j : Int)), some (.int last), some (.int (here : Nat)), v14, v15, v16, v17, v18] ∧
                  Same H4 H9 ∧ H9 l = some (.lst (ts.map V.int)) ∧ H9 B = some (.lst ((cs (qs ++ ex)).map V.int)) ∧ H9 C = some (.dK ck) ∧ SrchX rs ks (fA rs ks fk) (qs ++ ex) ck ∧ ∀ x ∈ ts.take n, ∃ q : Nat, x = (q : Int) ∧ q ∈ qs ++ ex) ?_ ?_ ?_ ?_
                · exact ⟨_, [], ck, rfl, sm8.trans smn, hl, by rw [List.append_nil]; exact smn _ _ d1', smn _ _ d2, by rw [List.append_nil]; exact d3, by simp⟩
                · intro n σ H9 hn9 hP
                  obtain ⟨v14, ex, ck, rfl, sm9, f0, _⟩ := hP
                  exact SqL.of f0
                · intro N3 X3 n x σ H9 hn9 hP hN3
                  obtain ⟨v14, ex, ck, rfl, sm9, f0, f1, f2, f3, f4⟩ := hP
                  obtain ⟨z', rfl, hz⟩ := map_get hn9
                  obtain ⟨z, rfl, zpt, i1, fw1, z1, z2, z3, z4⟩ := nx1 z' (List.mem_of_getElem? hz)
                  have f1' : H9 B = some (.lst ((cs (qs ++ ex)).map V.int)) := f1
                  have exl := f3.few
                  rw [els] at exl
                  have tk : ∀ {ex' : List Nat}, z ∈ qs ++ ex' → (∀ q ∈ qs ++ ex, q ∈ qs ++ ex') → ∀ x ∈ ts.take (n + 1), ∃ q : Nat, x = (q : Int) ∧ q ∈ qs ++ ex' := fun hz2 hs x hx => by
                    rw [take_snoc hz] at hx
                    rcases List.mem_append.mp hx with hx | hx
                    · obtain ⟨q, e, hq⟩ := f4 x hx
                      exact ⟨q, e, hs q hq⟩
                    · rw [List.mem_singleton] at hx
                      exact ⟨z, hx, hz2⟩
                  walk_at "s"
                  refine ⟨C, _, rfl, DGet.k (k := Sum.inl (z : Int)) f2, ?_⟩
                  have fk2 := f3.key z
                  cases ez : valV ck (Sum.inl (z : Int) : Key) with
                  | some v =>
                    rw [ez] at fk2
                    have hzm := of_decide_eq_true fk2.symm
                    rw [show (!(some v).isSome) = false from rfl]
                    walk_at "s"
                    exact hN3 _ _ ⟨_, ex, ck, rfl, sm9, f0, f1, f2, f3, tk hzm fun q h => h⟩
                  | none =>
                    rw [ez] at fk2
                    have hzm := of_decide_eq_false fk2.symm
                    have cl := f3.len
                    rw [show (!(none : Option V).isSome) = true from rfl]
                    walk_at "s"
                    refine ⟨C, _, rfl, DPut.k (k := Sum.inl (z : Int)) f2 (sz_less (by omega)), ?_⟩
                    have hpl : ((cs (qs ++ ex)).map V.int).length ≤ 5000 := by
                      rw [List.length_map, cs_len]
                      omega
                    have f19 : upd H9 C (.dK (putK ck (Sum.inl (z : Int)) (.int (here : Nat)))) B = some (.lst ((cs (qs ++ ex)).map V.int)) := (upd_ne nBC).trans f1'
                    walk_at "s"
                    refine hN3 _ _ ⟨_, ex ++ [z], putK ck (Sum.inl (z : Int)) (.int (here : Nat)), rfl, ?_, ?_, ?_, ?_, ?_, ?_⟩
                    · exact same_mut (same_mut sm9 nC4) nB4
                    · exact (upd_ne nlB).trans ((upd_ne nlC).trans f0)
                    · rw [upd_same, ← List.append_assoc, cs_snoc, List.map_append]
                      rfl
                    · exact (upd_ne nBC.symm).trans upd_same
                    · rw [← List.append_assoc]
                      exact f3.put hzm zpt z1 z3 z4 (.inr ⟨by rw [z2]; exact List.mem_append_left _ (List.mem_of_getElem? hq), by rw [z2]⟩)
                    · exact tk (by simp) fun q h => (by rw [← List.append_assoc]; exact List.mem_append_left _ h)
                · intro σ H9 hP
                  obtain ⟨v14, ex, ck, rfl, sm9, f0, f1, f2, f3, f4⟩ := hP
                  rw [List.length_map, List.take_length] at f4
                  have hj' : (qs ++ ex)[j]? = some here := by
                    rw [List.getElem?_append_left hjp]
                    exact hq
                  refine hN2 _ _ ⟨_, _, _, last, qs ++ ex, ck, rfl, sm9, f1, f2, f3, fun q h => List.mem_append_left _ (d4 q h), ?_⟩
                  rcases hlast with ⟨h1, h2⟩ | ⟨h1, h2⟩
                  · obtain ⟨h2, h3⟩ := h2
                    have eo : 2 * (here / 2) + 1 = here := by omega
                    exact .inr ⟨here / 2, j, by rw [eo]; exact h1, by rw [eo]; exact hj', h3⟩
                  · refine .inl ⟨h1, fun j' q hj2 e => ?_⟩
                    by_cases hjj : j' = j
                    · subst hjj
                      rw [hj'] at e
                      injection e with e
                      subst e
                      refine ⟨fun i2 fw2 a1 a2 a3 => ?_, h2⟩
                      rcases nx2 i2 fw2 a1 a2 a3 with s | s | s
                      · exact .inl s
                      · exact .inr (.inl s)
                      · obtain ⟨q, eq, hq2⟩ := f4 _ s
                        rw [show endP (arcs rs ks) i2 fw2 = q from by omega]
                        exact .inr (.inr hq2)
                    · rw [List.getElem?_append_left (by omega)] at e
                      obtain ⟨o1, o2⟩ := old j' q (by omega) e
                      exact ⟨fun i2 fw2 a1 a2 a3 => (o1 i2 fw2 a1 a2 a3).imp id fun s => s.imp id fun s => List.mem_append_left _ s, o2⟩
              · rename_i e1 e2
                refine hN2 _ _ ⟨_, _, _, last, qs, ck, rfl, sm8, d1, d2, d3, d4, d5.imp (fun h => ?_) id⟩
                omega
              · rename_i e1
                rw [List.length_map, cs_len] at e1
                refine hN2 _ _ ⟨_, _, _, last, qs, ck, rfl, sm8, d1, d2, d3, d4, d5.imp (fun h => ⟨h.1, fun j' q hj2 e => ?_⟩) id⟩
                have := (List.getElem?_eq_some_iff.mp e).1
                exact h.2 j' q (by omega) e
            · intro σ H7 hP
              obtain ⟨v11, v13, v14, last, qs, ck, rfl, sm8, d1, d2, d3, d4, d5⟩ := hP
              have qsl := d3.few
              rw [els] at qsl
              have sm28 : Same H2 H7 := sm4.trans sm8
              have hF7 := sm8 _ _ hF
              have hlv7 := sm28 _ _ hlv2
              walk_at "s"
              · rename_i e t nt
                have old : ∀ (j' q : Nat), j' < (2 * ((ls.map V.int).length : Int) + 2).toNat → qs[j']? = some q → Shot rs ks fk qs q ∧ ¬ Wntd ks q := by
                  rcases d5 with h | ⟨m, jm, h, _⟩
                  · exact h.2
                  · omega
                refine q t F C i qs ck _ (((sm1.trans sm).trans sm28).trans (same_new nt)) upd_same (hp_new d2 nt) d3.key (d3.fend hW hFK (fun m r e l s => d4 _ (beg_all e l s)) fun j' q e => old j' q ?_ e)
                have := (List.getElem?_eq_some_iff.mp e).1
                rw [List.length_map]
                omega
              · rename_i e
                obtain ⟨m, jm, hlm, hjm, hmk⟩ : ∃ m jm : Nat, last = ((2 * m + 1 : Nat) : Int) ∧ qs[jm]? = some (2 * m + 1) ∧ (m : Int) ∈ ks := by
                  rcases d5 with h | h
                  · omega
                  · exact h
                have hl2 : last / 2 = (m : Int) := by omega
                have hjml := (List.getElem?_eq_some_iff.mp hjm).1
                obtain ⟨pre0, B0⟩ := Back.start hW hFK d3 hjm hmk
                rw [← hl2] at B0
                refine ⟨.inr ⟨_, .inl hF7⟩, ?_⟩
                walk_at "s"
                rename_i q1 hq1
                obtain ⟨o1, g1, g2⟩ := flow_getX hFK.kx (hp_new hF7 hq1) upd_same
                refine ⟨o1, g1, ?_⟩
                rw [g2]
                have hF8 := hp_new (o := .dT fk) (x := .tup [V.int (last / 2), V.int (-1)]) hF7 hq1
                have hd8 := hp_new (o := .dK ck) (x := .tup [V.int (last / 2), V.int (-1)]) d2 hq1
                have hlv8 := hp_new (x := .tup [V.int (last / 2), V.int (-1)]) hlv7 hq1
                walk_at "s"
                rename_i q2 hq2
                refine ⟨F, _, rfl, DPut.t (k := [Sum.inl (last / 2), Sum.inl (-1)]) (hp_new hF8 hq2) upd_same (sz_less (by omega)), ?_⟩
                have hlv9 := hp_new (x := .tup [V.int (last / 2), V.int (-1)]) hlv8 hq2
                have nlF : lv ≠ F := ne_of hlv7 hF7 (by intro z; cases z)
                have nCF : C ≠ F := ne_of d2 hF7 (by intro z; cases z)
                have nF2 : H2 F = none := nF
                walk_at "s"
                refine for_rangeQ (lo := 0) (n := (2 * ((ls.map V.int).length : Int) + 2).toNat) Q rfl (fun j σ H9 => ∃ (v15 v16 v17 v18 : Option V) (last : Int) (fk' : List (List Key × V)), σ = [some (.ref a), some (.ref k), some (.ref lv), some (.ref u), v4, v5, some (.ref F), some (.int ((i : Int) + 1)), some (.int (i : Int)), some (.ref B), some (.ref C), v11, some (.int last), v13, v14, v15, v16, v17, v18] ∧
                  Same H2 H9 ∧ H9 C = some (.dK ck) ∧ H9 F = some (.dT fk') ∧ fk'.length ≤ 100 * i + 1 + j ∧ ((last = -1 ∧ Fl rs ks fk' ((i : Int) + 1)) ∨ ∃ (jq q : Nat) (pre : List (Nat × Bool)), last = (q : Nat) ∧ jq + j + 1 ≤ 2 * ls.length ∧ Back rs ks fk fk' qs jq q pre)) ?_ ?_ ?_
                · refine ⟨_, _, _, _, last, _, rfl, ?_, ?_, upd_same, ?_, .inr ⟨jm, 2 * m + 1, pre0, hlm, by omega, B0⟩⟩
                  · exact same_mut ((sm28.trans (same_new hq1)).trans (same_new hq2)) nF2
                  · exact (upd_ne nCF).trans (hp_new hd8 hq2)
                  · exact Nat.le_trans (putK_le _ _ _) (by omega)
                · intro N2 X2 j σ H9 hj hP hN2
                  obtain ⟨v15, v16, v17, v18, last, fk', rfl, sm9, c1, c2, c4, c5⟩ := hP
                  have hjl : j ≤ 42 := by
                    rw [List.length_map] at hj
                    omega
                  simp only [Int.zero_add]
                  walk_at "s"
                  · rename_i e
                    obtain ⟨jq, pq, pre, hlast, hjq, Bk⟩ : ∃ (jq q : Nat) (pre : List (Nat × Bool)), last = (q : Nat) ∧ jq + j + 1 ≤ 2 * ls.length ∧ Back rs ks fk fk' qs jq q pre := by
                      rcases c5 with h | h
                      · omega
                      · exact h
                    obtain ⟨i1, fw, a1, a2, a3, a4⟩ := d3.met jq pq Bk.at_
                    have ptq := d3.pts _ (List.mem_of_getElem? Bk.at_)
                    obtain ⟨bf, m2, m3⟩ : ∃ bf : Int, valV ck (Sum.inl last : Key) = some (.int bf) ∧ ((bf = -1 ∧ begP (arcs rs ks) i1 fw = SS rs) ∨ ∃ (j' b : Nat), bf = (b : Nat) ∧ j' < jq ∧ qs[j']? = some b ∧ begP (arcs rs ks) i1 fw = b) := by
                      rw [hlast]
                      rcases a4 with ⟨z1, z2⟩ | ⟨j', z1, z2, z3⟩
                      · exact ⟨_, z2, .inl ⟨rfl, z1⟩⟩
                      · exact ⟨_, z3, .inr ⟨j', _, rfl, z1, z2, rfl⟩⟩
                    refine ⟨C, .int bf, rfl, by rw [← m2]; exact DGet.k (k := Sum.inl last) c1, ?_⟩
                    walk_at "s"
                    obtain ⟨x, ex⟩ : ∃ x : Int, (if 0 ≤ bf then bf / 2 else -1) = x := ⟨_, rfl⟩
                    obtain ⟨y, ey⟩ : ∃ y : Int, last / 2 = y := ⟨_, rfl⟩
                    refine go_cutM (fun σ' H' => ∃ (q : Addr), σ' = [some (.ref a), some (.ref k), some (.ref lv), some (.ref u), v4, v5, some (.ref F), some (.int ((i : Int) + 1)), some (.int (i : Int)), some (.ref B), some (.ref C), v11, some (.int last), v13, v14, some (.int (j : Int)), some (.int bf), some (.ref q), v18] ∧ Same H9 H' ∧ H' q = some (.tup [.int x, .int y])) ?_ fun σ' H' hM => ?_
                    · walk_at "s"
                      · rename_i e2 p hp
                        exact ⟨same_new hp, by rw [upd_same, ← ex, ← ey, if_pos e2]⟩
                      · rename_i e2 p hp
                        exact ⟨same_new hp, by rw [upd_same, ← ex, ← ey, if_neg e2]⟩
                    obtain ⟨q0, rfl, smP, hq0⟩ := hM
                    refine go_cutM (fun σ' H'' => ∃ b : Bool, σ' = [some (.ref a), some (.ref k), some (.ref lv), some (.ref u), v4, v5, some (.ref F), some (.int ((i : Int) + 1)), some (.int (i : Int)), some (.ref B), some (.ref C), v11, some (.int last), v13, v14, some (.int (j : Int)), some (.int bf), some (.ref q0), some (.bl b)] ∧ H' = H'' ∧ b = (decide (0 ≤ bf) && (decide (last = 2 * y) == decide (x = y)))) ?_ fun σ' H'' hM => ?_
                    · walk_at "s"
                      · rename_i e2
                        rw [decide_eq_true e2, Bool.true_and]
                        show decide (V.bl (decide (V.int last = V.int (2 * y))) = V.bl (decide (V.int x = V.int y))) = _
                        rw [dec_eqI, dec_eqI]
                        generalize decide (last = 2 * y) = b1
                        generalize decide (x = y) = b2
                        cases b1 <;> cases b2 <;> simp
                      · rename_i e2
                        rw [decide_eq_false e2]
                        rfl
                    obtain ⟨b, rfl, hHH, hb⟩ := hM
                    subst hHH
                    refine go_cutM (fun σ' H'' => ∃ (q : Addr) (x' y' : Int), σ' = [some (.ref a), some (.ref k), some (.ref lv), some (.ref u), v4, v5, some (.ref F), some (.int ((i : Int) + 1)), some (.int (i : Int)), some (.ref B), some (.ref C), v11, some (.int last), v13, v14, some (.int (j : Int)), some (.int bf), some (.ref q), some (.bl b)] ∧ Same H' H'' ∧ H'' q = some (.tup [.int x', .int y']) ∧ (x', y') = if b = true ∧ x ≠ y then (y, x) else (x, y)) ?_ fun σ' H'' hM => ?_
                    · walk_at "s"
                      · rename_i e1 e2 p hp
                        exact ⟨p, y, x, rfl, same_new hp, upd_same, by rw [if_pos ⟨e1, e2⟩]⟩
                      · rename_i e1 e2
                        exact ⟨q0, x, y, rfl, Same.refl _, hq0, by rw [if_neg (fun z => z.2 e2)]⟩
                      · rename_i e1
                        exact ⟨q0, x, y, rfl, Same.refl _, hq0, by rw [if_neg (fun z => e1 z.1)]⟩
                    obtain ⟨q3, x', y', rfl, smP2, hq3, exy⟩ := hM
                    have key : keyA rs (ar (arcs rs ks) i1) = (x', y') ∧ b = !fw := by
                      rcases m3 with ⟨z1, z2⟩ | ⟨j', bb, z1, z2, z3, z4⟩
                      · obtain ⟨p1, p2⟩ := pair_src hW a1 z2 a2
                        have hb0 : b = false := by
                          rw [hb, z1]
                          rfl
                        have x1 : x = -1 := by
                          rw [← ex, z1]
                          rfl
                        refine ⟨?_, by rw [hb0, p1]; rfl⟩
                        rw [p2, exy, if_neg (by rw [hb0]; simp), x1, ← ey, hlast]
                      · obtain ⟨p1, p2⟩ := pair_arc hW a1 z4 a2 (d3.pts _ (List.mem_of_getElem? z3)).1 ptq.1
                        have x1 : x = (bb : Int) / 2 := by
                          rw [← ex, z1, if_pos (by omega)]
                        have y1 : y = (pq : Int) / 2 := by
                          rw [← ey, hlast]
                        have hb1 : b = !fw := by
                          rw [hb, x1, y1, hlast, z1, decide_eq_true (show (0 : Int) ≤ (bb : Nat) from by omega), Bool.true_and]
                          exact p1
                        refine ⟨?_, hb1⟩
                        rw [p2, exy, x1, y1, hb1]
                        cases fw <;> simp
                    have c22 := smP2 _ _ (smP _ _ c2)
                    have c12 := smP2 _ _ (smP _ _ c1)
                    walk_at "s"
                    refine ⟨.inr ⟨_, .inl c22⟩, ?_⟩
                    walk_at "s"
                    obtain ⟨o4, g4, g5⟩ := flow_getX Bk.kx c22 hq3
                    refine ⟨o4, g4, ?_⟩
                    rw [g5]
                    walk_at "s"
                    all_goals
                      rename_i eb
                      refine ⟨F, _, rfl, DPut.t (k := [Sum.inl x', Sum.inl y']) c22 hq3 (sz_less (by omega)), ?_⟩
                      walk_at "s"
                      refine hN2 _ _ ⟨_, _, _, _, bf, _, rfl, same_mut ((sm9.trans smP).trans smP2) nF2, (upd_ne nCF).trans c12, upd_same, Nat.le_trans (putK_le _ _ _) (by omega), ?_⟩
                      have ef : b = !fw := key.2
                      rcases m3 with ⟨z1, z2⟩ | ⟨j', bb, z1, z2, z3, z4⟩
                      · refine .inl ⟨z1, Bk.fin hW hFK d3 a1 a2 a3 z2 key.1 ?_⟩
                        cases fw
                        all_goals first | rfl | (rw [ef] at eb; exact absurd rfl eb) | (rw [ef] at eb; cases eb)
                      · refine .inr ⟨j', bb, pre ++ [(i1, fw)], z1, by omega, Bk.step hW d3 a1 a2 a3 z4 z2 z3 key.1 ?_⟩
                        cases fw
                        all_goals first | rfl | (rw [ef] at eb; exact absurd rfl eb) | (rw [ef] at eb; cases eb)
                  · refine hN2 _ _ ⟨_, _, _, _, last, fk', rfl, sm9, c1, c2, by omega, c5.imp id fun h => ?_⟩
                    obtain ⟨jq, pq, pre, hlast, _⟩ := h
                    omega
                · intro σ H9 hP
                  obtain ⟨v15, v16, v17, v18, last, fk', rfl, sm9, c1, c2, c4, c5⟩ := hP
                  rw [List.length_map] at c4 c5
                  rcases c5 with ⟨_, h⟩ | ⟨jq, pq, pre, _, h, _⟩
                  · exact hN _ _ ⟨_, _, _, _, _, _, _, _, _, _, _, _, _, fk', rfl, sm9, c2, h, by omega⟩
                  · omega
      · intro σ H4 hP
        obtain ⟨v4, v5, v8, v9, v10, v11, v12, v13, v14, v15, v16, v17, v18, fk, rfl, sm4, hF, hFK, hFl⟩ := hP
        have := wmax hFK
        omega
end
end K15W
set_option Elab.async false
set_option linter.all false
set_option maxRecDepth 100000
set_option maxHeartbeats 4000000
namespace K15W
open PySem PySem.Spec PyProof.Rows L2 TL LW NT FL NF
local macro_rules | `(tactic| walk_at "ne") => `(tactic| first
  | (with_reducible assumption)
  | exact Ne.symm (by assumption)
  | (with_reducible exact ne_of_none (by assumption) (by assumption))
  | (with_reducible exact (ne_of_none (by assumption) (by assumption)).symm)
  | (apply ne_of_none; (case h' => assumption); (case h => walk_at "hp"))
  | (apply Ne.symm; apply ne_of_none; (case h' => assumption); (case h => walk_at "hp")))
local macro_rules | `(tactic| walk_at "hp") => `(tactic| first
  | (with_reducible assumption)
  | exact upd_same
  | (with_reducible exact hp_new (by assumption) (by assumption))
  | (apply hp_new; (case n => assumption); (case h => walk_at "hp"))
  | (refine (upd_ne ?ne).trans ?hp; (case ne => walk_at "ne"); (case hp => walk_at "hp")))
local macro_rules | `(tactic| walk_at "sq") => `(tactic| first
  | ((with_reducible show SqL _ _ _ _); assumption)
  | ((with_reducible show SqT _ _ _ _); assumption)
  | exact SqL.of (by assumption)
  | exact SqL.of upd_same
  | exact SqT.of (by assumption)
  | exact SqT.of upd_same
  | (apply SqL.of; walk_at "hp")
  | (apply SqT.of; walk_at "hp"))
local macro_rules | `(tactic| walk_at "len") => `(tactic| first
  | (with_reducible assumption)
  | exact sz_small (by omega)
  | exact sz_less (by omega)
  | decide
  | (refine sz_small ?_; simp only [List.length_append, List.length_cons, List.length_nil, List.length_map, str_len]; omega)
  | (refine sz_less ?_; simp only [List.length_append, List.length_cons, List.length_nil, List.length_map, str_len]; omega))
local macro_rules | `(tactic| walk_at "cond") => `(tactic| first
  | omega
  | (split <;> omega)
  | (with_reducible assumption)
  | exact .inl ⟨by omega, by omega⟩
  | exact .inr ⟨by omega, by omega⟩
  | exact ⟨by omega, by omega⟩
  | (show (0 : Int) < _; omega)
  | (show (0 : Int) < _; decide +kernel)
  | exact ⟨by omega, by omega, by decide⟩
  | walk_at "len"
  | rfl
  | (show CMulW _ _; unfold CMulW; decide +kernel)
  | exact ⟨_, rfl⟩
  | decide +kernel
  | exact ⟨_, by walk_at "sq"⟩
  | exact .inl ⟨rfl, _, by walk_at "sq"⟩)
local macro_rules | `(tactic| walk_at "at") => `(tactic| first
  | (with_reducible assumption)
  | exact atI_nat (by assumption)
  | exact atI_last _ _
  | exact atI_nat (j := 0) rfl
  | exact atI_nat (j := 1) rfl
  | exact atI_nat (j := 2) rfl
  | exact atI_nat (j := 3) rfl
  | exact atI_nat (j := 4) rfl)
local macro_rules | `(tactic| walk_at "ix") => `(tactic| first
  | (with_reducible assumption)
  | (with_reducible exact ixN_0 (by simp; done))
  | (with_reducible exact ixN_1 (by simp; done))
  | (with_reducible exact ixN_2 (by simp; done))
  | (with_reducible exact Evl.ixN_nat (by assumption))
  | (with_reducible exact Evl.ixN_nat (by omega)))
local macro_rules | `(tactic| walk_at "v") => `(tactic| first
  | exact val_var rfl
  | (with_reducible exact val_c)
  | (with_reducible apply val_orV; (case ha => walk_at "v"); (case hb => walk_at "v"))
  | (with_reducible apply val_andV; (case ha => walk_at "v"); (case hb => walk_at "v"))
  | (with_reducible apply val_notV; walk_at "v")
  | (with_reducible apply val_ifS; (case h => walk_at "w"); (case ha => walk_at "v"); (case hb => walk_at "v"))
  | (with_reducible apply val_ifI; (case h => walk_at "w"); (case ha => walk_at "v"); (case hb => walk_at "v"))
  | (with_reducible apply val_ifB; (case h => walk_at "w"); (case ha => walk_at "v"); (case hb => walk_at "v"))
  | (with_reducible apply val_eqS; (case ha => walk_at "v"); (case hb => walk_at "v"))
  | (with_reducible apply val_eqI; (case ha => walk_at "v"); (case hb => walk_at "v"))
  | (with_reducible apply val_neS; (case ha => walk_at "v"); (case hb => walk_at "v"))
  | (with_reducible apply val_neI; (case ha => walk_at "v"); (case hb => walk_at "v"))
  | (with_reducible apply val_op; (case ha => walk_at "v"); (case hb => walk_at "v"); (case hr => exact fun Q q => ⟨_, _, rfl, rfl, q⟩)))
local macro_rules | `(tactic| walk_at "w") => `(tactic| first
  | (with_reducible apply ans_or2; (case h1 => walk_at "w"); (case h2 => walk_at "w"))
  | (with_reducible apply ans_and2; (case h1 => walk_at "w"); (case h2 => walk_at "w"))
  | (with_reducible apply ans_not; walk_at "w")
  | (with_reducible apply ans_test; walk_at "v")
  | (with_reducible apply ans_val; walk_at "v"))
local macro_rules | `(tactic| walk_at "s2") => `(tactic| first
  | refine ⟨_, rfl, ?_⟩
  | refine ⟨_, _, rfl, rfl, ?_⟩
  | (refine And.intro ?cc ?_; (case cc => walk_at "cond"))
  | refine ⟨_, _, _, _, rfl, rfl, by walk_at "sq", by walk_at "at", ?_⟩
  | refine ⟨_, _, _, _, rfl, rfl, by walk_at "hp", by walk_at "ix", ?_⟩
  | refine ⟨_, _, _, _, rfl, rfl, by walk_at "hp", by walk_at "hp", by walk_at "len", ?_⟩
  | refine ⟨_, _, _, rfl, rfl, by walk_at "len", by walk_at "at", ?_⟩
  | refine ⟨_, _, _, rfl, rfl, by walk_at "hp", by walk_at "len", ?_⟩
  | refine ⟨_, _, _, rfl, rfl, by walk_at "hp", by walk_at "at", ?_⟩
  | refine ⟨_, _, rfl, rfl, by walk_at "sq", ?_⟩
  | refine ⟨_, _, rfl, rfl, by walk_at "len", ?_⟩
  | refine ⟨_, _, rfl, by walk_at "sq", ?_⟩
  | refine ⟨_, _, rfl, .inl (by walk_at "sq"), ?_⟩
  | refine ⟨_, _, rfl, .inr (by walk_at "sq"), ?_⟩
  | refine ⟨_, _, rfl, by walk_at "sq", rfl, ?_⟩
  | refine ⟨_, fun _ _ h => h, ?_⟩
  | refine .inl ⟨_, rfl, ?_⟩
  | refine ⟨_, _, .type "int", .type _, true, rfl, ClsV.ty _, .base (.int _), kit_ty (by decide +kernel), ?_⟩
  | refine ⟨_, _, .type "int", .type _, false, rfl, ClsV.ty _, .base (.int _), kit_ty (by decide +kernel), ?_⟩
  | refine ⟨_, _, .type "bool", .type _, true, rfl, ClsV.ty _, .base (.bl _), kit_ty (by decide +kernel), ?_⟩
  | refine ⟨_, _, .type "bool", .type _, false, rfl, ClsV.ty _, .base (.bl _), kit_ty (by decide +kernel), ?_⟩
  | refine ⟨_, _, .type "str", .type _, true, rfl, ClsV.ty _, .base (.str _), kit_ty (by decide +kernel), ?_⟩
  | refine ⟨_, _, .type "str", .type _, false, rfl, ClsV.ty _, .base (.str _), kit_ty (by decide +kernel), ?_⟩
  | refine ⟨_, _, .type "NoneType", .type _, true, rfl, ClsV.ty _, .base (.non), kit_ty (by decide +kernel), ?_⟩
  | refine ⟨_, _, .type "NoneType", .type _, false, rfl, ClsV.ty _, .base (.non), kit_ty (by decide +kernel), ?_⟩
  | refine ⟨_, _, .type "list", .type _, true, rfl, ClsV.ty _, .base (.lst (by walk_at "hp")), kit_ty (by decide +kernel), ?_⟩
  | refine ⟨_, _, .type "list", .type _, false, rfl, ClsV.ty _, .base (.lst (by walk_at "hp")), kit_ty (by decide +kernel), ?_⟩
  | refine ⟨_, _, .type "tuple", .type _, true, rfl, ClsV.ty _, .base (.tup (by walk_at "hp")), kit_ty (by decide +kernel), ?_⟩
  | refine ⟨_, _, .type "tuple", .type _, false, rfl, ClsV.ty _, .base (.tup (by walk_at "hp")), kit_ty (by decide +kernel), ?_⟩
  | fail)
local macro_rules | `(tactic| walk_at "s1") => `(tactic| first
  | (with_reducible refine go_gcons ?_)
  | (with_reducible refine go_gnil ?_)
  | (with_reducible refine go_seqM ?_)
  | (with_reducible refine go_nextM ?_)
  | (with_reducible refine go_contM ?_)
  | (with_reducible refine go_brkM ?_)
  | (with_reducible refine go_retM ?_)
  | (with_reducible refine go_asgM ?_)
  | (with_reducible refine go_test ?_)
  | (with_reducible refine go_rI0 ?_)
  | (with_reducible refine go_op ?_)
  | (with_reducible refine go_var rfl ?_)
  | ((with_reducible show tFor (iRng1 _) _ _ _ _ _); refine (show iRng1 _ _ _ _ from ?_))
  | (with_reducible refine go_rng1 ?_)
  | (with_reducible refine go_c ?_)
  | (with_reducible apply go_pick; (case hs => walk_at "hp"); (case h0 => walk_at "cond"); (case h1 => walk_at "cond"); (case' q => intro k a b c h0 h1))
  | (with_reducible refine go_nil ?_)
  | (with_reducible refine go_cons ?_)
  | (with_reducible refine go_call ?_)
  | (with_reducible refine go_cb ?_)
  | (with_reducible refine go_next ?_)
  | (with_reducible refine go_cont ?_)
  | (with_reducible refine go_ret ?_)
  | (with_reducible refine go_name ?_)
  | (with_reducible refine go_seq ?_)
  | (with_reducible refine go_asg ?_)
  | (with_reducible apply go_or; (case h => walk_at "v"))
  | (with_reducible apply go_and; (case h => walk_at "v"))
  | (with_reducible apply go_andL; (case h => walk_at "v"); (case' h1 => intro e); (case' h2 => intro e))
  | (with_reducible apply go_orL; (case h => walk_at "v"); (case' h1 => intro e); (case' h2 => intro e))
  | (with_reducible apply go_ifE; (case h => walk_at "v"))
  | (with_reducible apply go_ifOr; (case h => walk_at "w"); (case' h1 => intro e); (case' h2 => intro e))
  | (with_reducible apply go_ifAnd; (case h => walk_at "w"); (case' h1 => intro e); (case' h2 => intro e))
  | (with_reducible refine go_min ?_)
  | (with_reducible refine iteT ?_)
  | (with_reducible refine iteF ?_)
  | (with_reducible refine iteD (fun _ => ?_) (fun e => absurd rfl e))
  | (with_reducible refine iteS (fun e => ?_) (fun e => ?_))
  | (with_reducible refine iteI (fun e => ?_) (fun e => ?_))
  | (with_reducible refine iteSn (fun e => ?_) (fun e => ?_))
  | (with_reducible refine iteIn (fun e => ?_) (fun e => ?_))
  | (with_reducible refine iteD (fun e => ?_) (fun e => ?_))
  | (with_reducible refine iteDn (fun e => ?_) (fun e => ?_))
  | (with_reducible refine ite2 (fun e => ?_) (fun e => ?_))
  | (refine fun (p : Addr) (hp : _ = none) => ?_)
  | ((conv => whnf); walk_at "s2")
  | fail)
local macro_rules | `(tactic| walk_at "s") => `(tactic| repeat' (first
  | (with_reducible refine go_gcons ?_)
  | (with_reducible refine go_gnil ?_)
  | (with_reducible refine go_seqM ?_)
  | (with_reducible refine go_nextM ?_)
  | (with_reducible refine go_contM ?_)
  | (with_reducible refine go_brkM ?_)
  | (with_reducible refine go_retM ?_)
  | (with_reducible refine go_asgM ?_)
  | (with_reducible refine go_test ?_)
  | (with_reducible refine go_rI0 ?_)
  | (with_reducible refine go_op ?_)
  | (with_reducible refine go_var rfl ?_)
  | ((with_reducible show tFor (iRng1 _) _ _ _ _ _); refine (show iRng1 _ _ _ _ from ?_))
  | (with_reducible refine go_rng1 ?_)
  | (with_reducible refine go_c ?_)
  | (with_reducible apply go_pick; (case hs => walk_at "hp"); (case h0 => walk_at "cond"); (case h1 => walk_at "cond"); (case' q => intro k a b c h0 h1))
  | (with_reducible refine go_nil ?_)
  | (with_reducible refine go_cons ?_)
  | (with_reducible refine go_call ?_)
  | (with_reducible refine go_cb ?_)
  | (with_reducible refine go_next ?_)
  | (with_reducible refine go_cont ?_)
  | (with_reducible refine go_ret ?_)
  | (with_reducible refine go_name ?_)
  | (with_reducible refine go_seq ?_)
  | (with_reducible refine go_asg ?_)
  | (with_reducible apply go_or; (case h => walk_at "v"))
  | (with_reducible apply go_and; (case h => walk_at "v"))
  | (with_reducible apply go_andL; (case h => walk_at "v"); (case' h1 => intro e); (case' h2 => intro e))
  | (with_reducible apply go_orL; (case h => walk_at "v"); (case' h1 => intro e); (case' h2 => intro e))
  | (with_reducible apply go_ifE; (case h => walk_at "v"))
  | (with_reducible apply go_ifOr; (case h => walk_at "w"); (case' h1 => intro e); (case' h2 => intro e))
  | (with_reducible apply go_ifAnd; (case h => walk_at "w"); (case' h1 => intro e); (case' h2 => intro e))
  | (with_reducible refine go_min ?_)
  | (with_reducible refine iteT ?_)
  | (with_reducible refine iteF ?_)
  | (with_reducible refine iteD (fun _ => ?_) (fun e => absurd rfl e))
  | (with_reducible refine iteS (fun e => ?_) (fun e => ?_))
  | (with_reducible refine iteI (fun e => ?_) (fun e => ?_))
  | (with_reducible refine iteSn (fun e => ?_) (fun e => ?_))
  | (with_reducible refine iteIn (fun e => ?_) (fun e => ?_))
  | (with_reducible refine iteD (fun e => ?_) (fun e => ?_))
  | (with_reducible refine iteDn (fun e => ?_) (fun e => ?_))
  | (with_reducible refine ite2 (fun e => ?_) (fun e => ?_))
  | (refine fun (p : Addr) (hp : _ = none) => ?_)
  | ((conv => whnf); walk_at "s2")
  | fail))

section
variable {P : Program} {w : World} {K : PySem.W.Frag} {mg : Str → Option Value} {base : Heap}
/-! ### the earliest least set -/
def spEarly : Sp := fun vs H Q _ => ∃ (a k : Addr) (rs : List Rw) (ws : List Int), vs = [.ref a, .ref k] ∧ RowsT H a rs ∧ WF rs ∧ rs.length ≤ 20 ∧ Ints H k ws ∧ InR rs ws ∧
  ∀ (l : Addr) (H' : Hp) (n : Int) (qs : List Nat), Same H H' → H l = none → Fend rs ws n qs → Ints H' l (Ear rs ws qs) → Q (.ref l) H'
/-- what the law's own list holds -/
def earB (qs : List Nat) (n : Nat) : Bool := decide (2 * n ∈ qs) && !decide (2 * n + 1 ∈ qs)
theorem ear_list {rs : List Rw} {ws : List Int} {qs : List Nat} (h : ∀ n, n < rs.length → 2 * n ∈ qs → liv rs ws (n : Int) = true) : ((List.range rs.length).filter (earB qs)).map (fun (n : Nat) => (n : Int)) = Ear rs ws qs := by
  unfold Ear lives
  rw [List.filter_filter]
  refine congrArg _ (List.filter_congr fun n hn => ?_)
  have hl := List.mem_range.mp hn
  unfold earB
  by_cases e : 2 * n ∈ qs
  · rw [h n hl e, Bool.and_true]
  · rw [decide_eq_false e]
    rfl
theorem ok_earliest (T : Top w K mg) : FnOk P w K mg base CX0 4 T.a_law_c_earliest T.d_law_c_earliest ["rows", "wanted"] spEarly := by
  have G_law_c_flow := ok_flowX (P := P) (w := w) (base := base) T
  refine T.F_law_c_earliest.ok sc_law_c_earliest (fun vs H Q E h => ?_) (fun cdv A0 outer s0 H vs Q E hr h => ?_)
  · obtain ⟨a, k, rs, ks, rfl, _⟩ := h
    rfl
  · obtain ⟨a, k, rs, ks, rfl, hR, hW, hn, hk, hin, q⟩ := h
    have hu := hu_of hr
    refine ⟨_, (pss_cons (ps_asg (pe_call G_law_c_flow (hr.mono (by omega)) (by rfl) T.m_law_c_flow T.F_law_c_flow.kp T.b_law_c_flow .nil pass0 (pa_cons (pv 0) (pa_cons (pv 1) pa_nil))) (pg_tup rfl (pgs_cons (pg_name (i := 2) sc_law_c_earliest.nd rfl (.inl rfl)) (pgs_cons (pg_name (i := 3) sc_law_c_earliest.nd rfl (.inl rfl)) (pgs_cons (pg_name (i := 4) sc_law_c_earliest.nd rfl (.inr rfl)) pgs_nil)))))
    (pss_one (ps_ret (pe_lc (own := [("node", 5)]) rfl sc_law_c_earliest.nd (pi_range1 rfl T.m_range (pa_cons (pe_callB call_len_seq (by rfl) T.m_len (by decide +kernel) (pa_cons (pv 0) pa_nil)) pa_nil)) (blkOk_by (own := [("node", 5)]) (N := ["rows", "wanted", "number", "flow", "came", "node"]) (sc := defScope s_law_c_earliest) (by decide +kernel)) (fun _ _ _ _ _ => (pg_name (i := 5) sc_law_c_earliest.nd rfl (.inl rfl))) (fun _ _ _ _ _ => pts_one (PW.pt (pw_and (pt_cmp (pc_din hu (pe_op op_mul pe_int (pv 5)) (pv 4))) (pw_and1 (pt_cmp (pc_dnotin hu (pe_op op_add (pe_op op_mul pe_int (pv 5)) pe_int) (pv 4))))))) (fun _ _ _ _ _ => (pv 5)))))), ?_⟩
    walk_at "s"
    refine ⟨a, k, rs, ks, rfl, hR, hW, hn, hk, hin, fun t F C num qs ck H1 sm1 ht hC key fend => ?_⟩
    obtain ⟨xs, hX, hE⟩ := hR.same sm1
    have hXl := hE.len
    walk_at "s"
    rename_i L hL
    refine lc_range (lo := 0) (n := ((xs.length : Int)).toNat) (fun i H2 => Same H1 H2 ∧ H2 L = some (.lst ((((List.range i).filter (earB qs)).map fun (n : Nat) => (n : Int)).map V.int))) ?_ ?_ ?_
    · exact ⟨same_new hL, upd_same⟩
    · intro i H2 hi hP
      obtain ⟨sm2, e1⟩ := hP
      have hC2 := sm2 _ _ hC
      have hil : i < rs.length := by omega
      have bl : ((List.range i).filter (earB qs)).length ≤ 20 := by
        have := List.length_filter_le (earB qs) (List.range i)
        rw [List.length_range] at this
        omega
      have rf : (List.range (i + 1)).filter (earB qs) = (List.range i).filter (earB qs) ++ (if earB qs i = true then [i] else []) := by
        rw [List.range_succ, List.filter_append, List.filter_cons]
        rfl
      have k1 : (valV ck (Sum.inl (2 * (i : Int)) : Key)).isSome = decide (2 * i ∈ qs) := key (2 * i)
      have k2 : (valV ck (Sum.inl (2 * (i : Int) + 1) : Key)).isSome = decide (2 * i + 1 ∈ qs) := key (2 * i + 1)
      simp only [Int.zero_add]
      walk_at "s"
      refine ⟨C, _, rfl, DGet.k (k := Sum.inl (2 * (i : Int))) hC2, ?_⟩
      rw [k1]
      have no : earB qs i = false → H2 L = some (.lst ((((List.range (i + 1)).filter (earB qs)).map fun (n : Nat) => (n : Int)).map V.int)) := fun e => by
        rw [rf, e, if_neg (by decide), List.append_nil]
        exact e1
      by_cases c1 : 2 * i ∈ qs
      · rw [decide_eq_true c1]
        walk_at "s"
        refine ⟨C, _, rfl, DGet.k (k := Sum.inl (2 * (i : Int) + 1)) hC2, ?_⟩
        rw [k2]
        by_cases c2 : 2 * i + 1 ∈ qs
        · rw [decide_eq_true c2]
          walk_at "s"
          · rename_i e
            cases e
          have := no (by unfold earB; rw [decide_eq_true c1, decide_eq_true c2]; rfl)
          first | exact ⟨sm2, this⟩ | exact this
        · rw [decide_eq_false c2]
          walk_at "s"
          rotate_left
          · rename_i e
            exact absurd rfl e
          refine ⟨_, e1, sz_less (by rw [List.length_map, List.length_map]; omega), same_mut sm2 hL, ?_⟩
          rw [upd_same, rf, show earB qs i = true from by unfold earB; rw [decide_eq_true c1, decide_eq_false c2]; rfl, if_pos rfl, List.map_append, List.map_append]
          rfl
      · rw [decide_eq_false c1]
        walk_at "s"
        have := no (by unfold earB; rw [decide_eq_false c1]; rfl)
        first | exact ⟨sm2, this⟩ | exact this
    · intro H2 hP
      obtain ⟨sm2, e1⟩ := hP
      rw [show ((xs.length : Int)).toNat = rs.length from by omega, ear_list] at e1
      · walk_at "s"
        exact q L H2 num qs (sm1.trans sm2) (sm1.free hL) fend e1
      · intro n hn2 hq
        have := (fend.pts _ hq).2
        rw [show 2 * n / 2 = n from by omega] at this
        exact this
end
end K15W
set_option Elab.async false
set_option linter.all false
set_option maxRecDepth 100000
set_option maxHeartbeats 4000000
namespace K15W
open PySem PySem.Spec PyProof.Rows L2 TL LW NT FL NF
local macro_rules | `(tactic| walk_at "ne") => `(tactic| first
  | (with_reducible assumption)
  | exact Ne.symm (by assumption)
  | (with_reducible exact ne_of_none (by assumption) (by assumption))
  | (with_reducible exact (ne_of_none (by assumption) (by assumption)).symm)
  | (apply ne_of_none; (case h' => assumption); (case h => walk_at "hp"))
  | (apply Ne.symm; apply ne_of_none; (case h' => assumption); (case h => walk_at "hp")))
local macro_rules | `(tactic| walk_at "hp") => `(tactic| first
  | (with_reducible assumption)
  | exact upd_same
  | (with_reducible exact hp_new (by assumption) (by assumption))
  | (apply hp_new; (case n => assumption); (case h => walk_at "hp"))
  | (refine (upd_ne ?ne).trans ?hp; (case ne => walk_at "ne"); (case hp => walk_at "hp")))
local macro_rules | `(tactic| walk_at "sq") => `(tactic| first
  | ((with_reducible show SqL _ _ _ _); assumption)
  | ((with_reducible show SqT _ _ _ _); assumption)
  | exact SqL.of (by assumption)
  | exact SqL.of upd_same
  | exact SqT.of (by assumption)
  | exact SqT.of upd_same
  | (apply SqL.of; walk_at "hp")
  | (apply SqT.of; walk_at "hp"))
local macro_rules | `(tactic| walk_at "len") => `(tactic| first
  | (with_reducible assumption)
  | exact sz_small (by omega)
  | exact sz_less (by omega)
  | decide
  | (refine sz_small ?_; simp only [List.length_append, List.length_cons, List.length_nil, List.length_map, str_len]; omega)
  | (refine sz_less ?_; simp only [List.length_append, List.length_cons, List.length_nil, List.length_map, str_len]; omega))
local macro_rules | `(tactic| walk_at "cond") => `(tactic| first
  | omega
  | (split <;> omega)
  | (with_reducible assumption)
  | exact .inl ⟨by omega, by omega⟩
  | exact .inr ⟨by omega, by omega⟩
  | exact ⟨by omega, by omega⟩
  | (show (0 : Int) < _; omega)
  | (show (0 : Int) < _; decide +kernel)
  | exact ⟨by omega, by omega, by decide⟩
  | walk_at "len"
  | rfl
  | (show CMulW _ _; unfold CMulW; decide +kernel)
  | exact ⟨_, rfl⟩
  | decide +kernel
  | exact ⟨_, by walk_at "sq"⟩
  | exact .inl ⟨rfl, _, by walk_at "sq"⟩)
local macro_rules | `(tactic| walk_at "at") => `(tactic| first
  | (with_reducible assumption)
  | exact atI_nat (by assumption)
  | exact atI_last _ _
  | exact atI_nat (j := 0) rfl
  | exact atI_nat (j := 1) rfl
  | exact atI_nat (j := 2) rfl
  | exact atI_nat (j := 3) rfl
  | exact atI_nat (j := 4) rfl)
local macro_rules | `(tactic| walk_at "ix") => `(tactic| first
  | (with_reducible assumption)
  | (with_reducible exact ixN_0 (by simp; done))
  | (with_reducible exact ixN_1 (by simp; done))
  | (with_reducible exact ixN_2 (by simp; done))
  | (with_reducible exact Evl.ixN_nat (by assumption))
  | (with_reducible exact Evl.ixN_nat (by omega)))
local macro_rules | `(tactic| walk_at "v") => `(tactic| first
  | exact val_var rfl
  | (with_reducible exact val_c)
  | (with_reducible apply val_orV; (case ha => walk_at "v"); (case hb => walk_at "v"))
  | (with_reducible apply val_andV; (case ha => walk_at "v"); (case hb => walk_at "v"))
  | (with_reducible apply val_notV; walk_at "v")
  | (with_reducible apply val_ifS; (case h => walk_at "w"); (case ha => walk_at "v"); (case hb => walk_at "v"))
  | (with_reducible apply val_ifI; (case h => walk_at "w"); (case ha => walk_at "v"); (case hb => walk_at "v"))
  | (with_reducible apply val_ifB; (case h => walk_at "w"); (case ha => walk_at "v"); (case hb => walk_at "v"))
  | (with_reducible apply val_eqS; (case ha => walk_at "v"); (case hb => walk_at "v"))
  | (with_reducible apply val_eqI; (case ha => walk_at "v"); (case hb => walk_at "v"))
  | (with_reducible apply val_neS; (case ha => walk_at "v"); (case hb => walk_at "v"))
  | (with_reducible apply val_neI; (case ha => walk_at "v"); (case hb => walk_at "v"))
  | (with_reducible apply val_op; (case ha => walk_at "v"); (case hb => walk_at "v"); (case hr => exact fun Q q => ⟨_, _, rfl, rfl, q⟩)))
local macro_rules | `(tactic| walk_at "w") => `(tactic| first
  | (with_reducible apply ans_or2; (case h1 => walk_at "w"); (case h2 => walk_at "w"))
  | (with_reducible apply ans_and2; (case h1 => walk_at "w"); (case h2 => walk_at "w"))
  | (with_reducible apply ans_not; walk_at "w")
  | (with_reducible apply ans_test; walk_at "v")
  | (with_reducible apply ans_val; walk_at "v"))
local macro_rules | `(tactic| walk_at "s2") => `(tactic| first
  | refine ⟨_, rfl, ?_⟩
  | refine ⟨_, _, rfl, rfl, ?_⟩
  | (refine And.intro ?cc ?_; (case cc => walk_at "cond"))
  | refine ⟨_, _, _, _, rfl, rfl, by walk_at "sq", by walk_at "at", ?_⟩
  | refine ⟨_, _, _, _, rfl, rfl, by walk_at "hp", by walk_at "ix", ?_⟩
  | refine ⟨_, _, _, _, rfl, rfl, by walk_at "hp", by walk_at "hp", by walk_at "len", ?_⟩
  | refine ⟨_, _, _, rfl, rfl, by walk_at "len", by walk_at "at", ?_⟩
  | refine ⟨_, _, _, rfl, rfl, by walk_at "hp", by walk_at "len", ?_⟩
  | refine ⟨_, _, _, rfl, rfl, by walk_at "hp", by walk_at "at", ?_⟩
  | refine ⟨_, _, rfl, rfl, by walk_at "sq", ?_⟩
  | refine ⟨_, _, rfl, rfl, by walk_at "len", ?_⟩
  | refine ⟨_, _, rfl, by walk_at "sq", ?_⟩
  | refine ⟨_, _, rfl, .inl (by walk_at "sq"), ?_⟩
  | refine ⟨_, _, rfl, .inr (by walk_at "sq"), ?_⟩
  | refine ⟨_, _, rfl, by walk_at "sq", rfl, ?_⟩
  | refine ⟨_, fun _ _ h => h, ?_⟩
  | refine .inl ⟨_, rfl, ?_⟩
  | refine ⟨_, _, .type "int", .type _, true, rfl, ClsV.ty _, .base (.int _), kit_ty (by decide +kernel), ?_⟩
  | refine ⟨_, _, .type "int", .type _, false, rfl, ClsV.ty _, .base (.int _), kit_ty (by decide +kernel), ?_⟩
  | refine ⟨_, _, .type "bool", .type _, true, rfl, ClsV.ty _, .base (.bl _), kit_ty (by decide +kernel), ?_⟩
  | refine ⟨_, _, .type "bool", .type _, false, rfl, ClsV.ty _, .base (.bl _), kit_ty (by decide +kernel), ?_⟩
  | refine ⟨_, _, .type "str", .type _, true, rfl, ClsV.ty _, .base (.str _), kit_ty (by decide +kernel), ?_⟩
  | refine ⟨_, _, .type "str", .type _, false, rfl, ClsV.ty _, .base (.str _), kit_ty (by decide +kernel), ?_⟩
  | refine ⟨_, _, .type "NoneType", .type _, true, rfl, ClsV.ty _, .base (.non), kit_ty (by decide +kernel), ?_⟩
  | refine ⟨_, _, .type "NoneType", .type _, false, rfl, ClsV.ty _, .base (.non), kit_ty (by decide +kernel), ?_⟩
  | refine ⟨_, _, .type "list", .type _, true, rfl, ClsV.ty _, .base (.lst (by walk_at "hp")), kit_ty (by decide +kernel), ?_⟩
  | refine ⟨_, _, .type "list", .type _, false, rfl, ClsV.ty _, .base (.lst (by walk_at "hp")), kit_ty (by decide +kernel), ?_⟩
  | refine ⟨_, _, .type "tuple", .type _, true, rfl, ClsV.ty _, .base (.tup (by walk_at "hp")), kit_ty (by decide +kernel), ?_⟩
  | refine ⟨_, _, .type "tuple", .type _, false, rfl, ClsV.ty _, .base (.tup (by walk_at "hp")), kit_ty (by decide +kernel), ?_⟩
  | fail)
local macro_rules | `(tactic| walk_at "s1") => `(tactic| first
  | (with_reducible refine go_gcons ?_)
  | (with_reducible refine go_gnil ?_)
  | (with_reducible refine go_seqM ?_)
  | (with_reducible refine go_nextM ?_)
  | (with_reducible refine go_contM ?_)
  | (with_reducible refine go_brkM ?_)
  | (with_reducible refine go_retM ?_)
  | (with_reducible refine go_asgM ?_)
  | (with_reducible refine go_test ?_)
  | (with_reducible refine go_rI0 ?_)
  | (with_reducible refine go_op ?_)
  | (with_reducible refine go_var rfl ?_)
  | ((with_reducible show tFor (iRng1 _) _ _ _ _ _); refine (show iRng1 _ _ _ _ from ?_))
  | (with_reducible refine go_rng1 ?_)
  | (with_reducible refine go_c ?_)
  | (with_reducible apply go_pick; (case hs => walk_at "hp"); (case h0 => walk_at "cond"); (case h1 => walk_at "cond"); (case' q => intro k a b c h0 h1))
  | (with_reducible refine go_nil ?_)
  | (with_reducible refine go_cons ?_)
  | (with_reducible refine go_call ?_)
  | (with_reducible refine go_cb ?_)
  | (with_reducible refine go_next ?_)
  | (with_reducible refine go_cont ?_)
  | (with_reducible refine go_ret ?_)
  | (with_reducible refine go_name ?_)
  | (with_reducible refine go_seq ?_)
  | (with_reducible refine go_asg ?_)
  | (with_reducible apply go_or; (case h => walk_at "v"))
  | (with_reducible apply go_and; (case h => walk_at "v"))
  | (with_reducible apply go_andL; (case h => walk_at "v"); (case' h1 => intro e); (case' h2 => intro e))
  | (with_reducible apply go_orL; (case h => walk_at "v"); (case' h1 => intro e); (case' h2 => intro e))
  | (with_reducible apply go_ifE; (case h => walk_at "v"))
  | (with_reducible apply go_ifOr; (case h => walk_at "w"); (case' h1 => intro e); (case' h2 => intro e))
  | (with_reducible apply go_ifAnd; (case h => walk_at "w"); (case' h1 => intro e); (case' h2 => intro e))
  | (with_reducible refine go_min ?_)
  | (with_reducible refine iteT ?_)
  | (with_reducible refine iteF ?_)
  | (with_reducible refine iteD (fun _ => ?_) (fun e => absurd rfl e))
  | (with_reducible refine iteS (fun e => ?_) (fun e => ?_))
  | (with_reducible refine iteI (fun e => ?_) (fun e => ?_))
  | (with_reducible refine iteSn (fun e => ?_) (fun e => ?_))
  | (with_reducible refine iteIn (fun e => ?_) (fun e => ?_))
  | (with_reducible refine iteD (fun e => ?_) (fun e => ?_))
  | (with_reducible refine iteDn (fun e => ?_) (fun e => ?_))
  | (with_reducible refine ite2 (fun e => ?_) (fun e => ?_))
  | (refine fun (p : Addr) (hp : _ = none) => ?_)
  | ((conv => whnf); walk_at "s2")
  | fail)
local macro_rules | `(tactic| walk_at "s") => `(tactic| repeat' (first
  | (with_reducible refine go_gcons ?_)
  | (with_reducible refine go_gnil ?_)
  | (with_reducible refine go_seqM ?_)
  | (with_reducible refine go_nextM ?_)
  | (with_reducible refine go_contM ?_)
  | (with_reducible refine go_brkM ?_)
  | (with_reducible refine go_retM ?_)
  | (with_reducible refine go_asgM ?_)
  | (with_reducible refine go_test ?_)
  | (with_reducible refine go_rI0 ?_)
  | (with_reducible refine go_op ?_)
  | (with_reducible refine go_var rfl ?_)
  | ((with_reducible show tFor (iRng1 _) _ _ _ _ _); refine (show iRng1 _ _ _ _ from ?_))
  | (with_reducible refine go_rng1 ?_)
  | (with_reducible refine go_c ?_)
  | (with_reducible apply go_pick; (case hs => walk_at "hp"); (case h0 => walk_at "cond"); (case h1 => walk_at "cond"); (case' q => intro k a b c h0 h1))
  | (with_reducible refine go_nil ?_)
  | (with_reducible refine go_cons ?_)
  | (with_reducible refine go_call ?_)
  | (with_reducible refine go_cb ?_)
  | (with_reducible refine go_next ?_)
  | (with_reducible refine go_cont ?_)
  | (with_reducible refine go_ret ?_)
  | (with_reducible refine go_name ?_)
  | (with_reducible refine go_seq ?_)
  | (with_reducible refine go_asg ?_)
  | (with_reducible apply go_or; (case h => walk_at "v"))
  | (with_reducible apply go_and; (case h => walk_at "v"))
  | (with_reducible apply go_andL; (case h => walk_at "v"); (case' h1 => intro e); (case' h2 => intro e))
  | (with_reducible apply go_orL; (case h => walk_at "v"); (case' h1 => intro e); (case' h2 => intro e))
  | (with_reducible apply go_ifE; (case h => walk_at "v"))
  | (with_reducible apply go_ifOr; (case h => walk_at "w"); (case' h1 => intro e); (case' h2 => intro e))
  | (with_reducible apply go_ifAnd; (case h => walk_at "w"); (case' h1 => intro e); (case' h2 => intro e))
  | (with_reducible refine go_min ?_)
  | (with_reducible refine iteT ?_)
  | (with_reducible refine iteF ?_)
  | (with_reducible refine iteD (fun _ => ?_) (fun e => absurd rfl e))
  | (with_reducible refine iteS (fun e => ?_) (fun e => ?_))
  | (with_reducible refine iteI (fun e => ?_) (fun e => ?_))
  | (with_reducible refine iteSn (fun e => ?_) (fun e => ?_))
  | (with_reducible refine iteIn (fun e => ?_) (fun e => ?_))
  | (with_reducible refine iteD (fun e => ?_) (fun e => ?_))
  | (with_reducible refine iteDn (fun e => ?_) (fun e => ?_))
  | (with_reducible refine ite2 (fun e => ?_) (fun e => ?_))
  | (refine fun (p : Addr) (hp : _ = none) => ?_)
  | ((conv => whnf); walk_at "s2")
  | fail))

theorem map_erase {α β : Type} {f : α → β} : ∀ (l : List α) (i : Nat), (l.map f).eraseIdx i = (l.eraseIdx i).map f
  | [], _ => rfl
  | _ :: _, 0 => rfl
  | x :: l, i + 1 => by
    show f x :: (l.map f).eraseIdx i = f x :: (l.eraseIdx i).map f
    rw [map_erase l i]
theorem perm_erase {α : Type} : ∀ {l : List α} {i : Nat} (h : i < l.length), (l[i] :: l.eraseIdx i).Perm l
  | x :: l, 0, _ => List.Perm.refl _
  | x :: l, i + 1, h => by
    have hi : i < l.length := by simpa using h
    have := perm_erase hi
    show (l[i] :: x :: l.eraseIdx i).Perm (x :: l)
    exact (List.Perm.swap x l[i] _).trans (this.cons x)
theorem upd_none' {H : Hp} {s r : Addr} {o : HO} (h : upd H s o r = none) : H r = none := by
  have n : r ≠ s := fun z => by
    rw [z, upd_same] at h
    cases h
  rw [upd_ne n] at h
  exact h
section
variable {P : Program} {w : World} {K : PySem.W.Frag} {mg : Str → Option Value} {base : Heap}
/-! ### shuffled -/
def spShuf : Sp := fun vs H Q _ => ∃ (s k : Addr) (ns : List Int), vs = [.ref s, .ref k] ∧ Src H s ∧ s ≠ k ∧ Ints H k ns ∧ ns.length ≤ 40 ∧
  ∀ (l : Addr) (H' : Hp) (ms : List Int), But s H H' → H l = none → Src H' s → Ints H' l ms → ms.Perm ns → Q (.ref l) H'
theorem ok_shuf (T : Top w K mg) : FnOk P w K mg base CX0 2 T.a_law_shuffled T.d_law_shuffled ["source", "things"] spShuf := by
  have G_law_pick := ok_pick (P := P) (w := w) (base := base) T
  refine T.F_law_shuffled.ok sc_law_shuffled (fun vs H Q E h => ?_) (fun cdv A0 outer s0 H vs Q E hr h => ?_)
  · obtain ⟨s, k, ns, rfl, _⟩ := h
    rfl
  · obtain ⟨s, k, ns, rfl, ⟨a, b, c, hs⟩, nsk, hk, hn, q⟩ := h
    have hk' : H k = some (.lst (ns.map V.int)) := hk
    refine ⟨_, (pss_cons (ps_set (i := 2) sc_law_shuffled.nd rfl (.inl rfl) (pe_callTy call_list_of (by rfl) T.m_list (by decide +kernel) (pa_cons (pv 1) pa_nil)))
    (pss_cons (ps_set (i := 3) sc_law_shuffled.nd rfl (.inl rfl) (pe_lst pa_nil))
    (pss_cons (ps_while PassesOwn.never (pt_cmpR op_gt (pe_callB call_len_seq (by rfl) T.m_len (by decide +kernel) (pa_cons (pv 2) pa_nil)) pe_int (nomark _))
    (pss_one (ps_expr (pe_bm PySem.F.plainAttrs_list PySem.F.slot_list_append PySem.F.type_list_append mt_append (pv 3) (pa_cons (pe_bm PySem.F.plainAttrs_list PySem.F.slot_list_pop PySem.F.type_list_pop mt_popAt (pv 2) (pa_cons (pe_call G_law_pick (hr.mono (by omega)) (by rfl) T.m_law_pick T.F_law_pick.kp T.b_law_pick .nil pass0 (pa_cons (pv 0) (pa_cons (pe_callB call_len_seq (by rfl) T.m_len (by decide +kernel) (pa_cons (pv 2) pa_nil)) pa_nil))) pa_nil)) pa_nil)))))
    (pss_one (ps_ret (pv 3)))))), ?_⟩
    walk_at "s"
    rename_i A hA B hB
    have nsA : s ≠ A := ne_of_none hs hA
    have nsB : s ≠ B := ne_of_none (hp_new hs hA) hB
    have nAB : A ≠ B := ne_of_none upd_same hB
    have hB0 : H B = none := upd_none' hB
    refine ⟨fun m σ H1 => ∃ (a b c : Int) (ls ms : List Int), σ = [some (.ref s), some (.ref k), some (.ref A), some (.ref B)] ∧ ls.length = m ∧ But s H H1 ∧ H1 s = some (.lst [.int a, .int b, .int c]) ∧ H1 A = some (.lst (ls.map V.int)) ∧ H1 B = some (.lst (ms.map V.int)) ∧ (ms ++ ls).Perm ns,
      ⟨ns.length, a, b, c, ns, [], rfl, rfl, .of ((same_new hA).trans (same_new hB)), hp_new (hp_new hs hA) hB, hp_new upd_same hB, upd_same, .refl _⟩, fun m σ H1 hW => ?_⟩
    obtain ⟨a, b, c, ls, ms, rfl, hl, but, h1, h2, h3, hp⟩ := hW
    have hpl := hp.length_eq
    rw [List.length_append] at hpl
    have hll : (ls.map V.int).length ≤ 40 := by
      rw [List.length_map]
      omega
    walk_at "s"
    · rename_i e k1 a1 b1 c1 k10 k11
      rw [List.length_map] at k11
      have hki : k1.toNat < ls.length := by omega
      have hix : ixN (ls.map V.int).length k1 = some k1.toNat := by
        unfold ixN
        rw [if_pos k10, if_pos (by rw [List.length_map]; omega)]
      have eg : (ls.map V.int)[k1.toNat]? = some (V.int ls[k1.toNat]) := by
        rw [List.getElem?_map, List.getElem?_eq_getElem hki]
        rfl
      refine ⟨A, _, k1, k1.toNat, _, rfl, rfl, (upd_ne nsA.symm).trans h2, by omega, by omega, (ixN_seq hix).1, eg, ?_⟩
      have h3' : upd (upd H1 s (.lst [.int a1, .int b1, .int c1])) A (.lst ((ls.map V.int).eraseIdx k1.toNat)) B = some (.lst (ms.map V.int)) := (upd_ne nAB.symm).trans ((upd_ne nsB.symm).trans h3)
      have hml : (ms.map V.int).length ≤ 40 := by
        rw [List.length_map]
        omega
      walk_at "s"
      have pe : (ls[k1.toNat] :: ls.eraseIdx k1.toNat).Perm ls := perm_erase hki
      have hA0 : H A = none := hA
      refine ⟨ls.length - 1, by omega, a1, b1, c1, ls.eraseIdx k1.toNat, ms ++ [ls[k1.toNat]], rfl, ?_, but_mut (but_mut (but.trans But.upd) hA0) hB0, (upd_ne nsB).trans ((upd_ne nsA).trans upd_same), ?_, ?_, ?_⟩
      · rw [List.length_eraseIdx, if_pos hki]
      · refine (upd_ne nAB).trans (upd_same.trans ?_)
        rw [map_erase]
      · rw [upd_same, List.map_append]
        rfl
      · rw [List.append_assoc]
        exact ((List.Perm.refl ms).append pe).trans hp
    · rename_i e
      rw [List.length_map] at e
      have : ls = [] := List.length_eq_zero_iff.mp (by omega)
      subst this
      rw [List.append_nil] at hp
      walk_at "s"
      exact q B H1 ms but hB0 ⟨a, b, c, h1⟩ h3 hp

end
end K15W
set_option Elab.async false
set_option linter.all false
set_option maxRecDepth 100000
set_option maxHeartbeats 4000000
namespace K15W
open PySem PySem.Spec PyProof.Rows L2 TL LW NT FL NF
local macro_rules | `(tactic| walk_at "ne") => `(tactic| first
  | (with_reducible assumption)
  | exact Ne.symm (by assumption)
  | (with_reducible exact ne_of_none (by assumption) (by assumption))
  | (with_reducible exact (ne_of_none (by assumption) (by assumption)).symm)
  | (apply ne_of_none; (case h' => assumption); (case h => walk_at "hp"))
  | (apply Ne.symm; apply ne_of_none; (case h' => assumption); (case h => walk_at "hp")))
local macro_rules | `(tactic| walk_at "hp") => `(tactic| first
  | (with_reducible assumption)
  | exact upd_same
  | (with_reducible exact hp_new (by assumption) (by assumption))
  | (apply hp_new; (case n => assumption); (case h => walk_at "hp"))
  | (refine (upd_ne ?ne).trans ?hp; (case ne => walk_at "ne"); (case hp => walk_at "hp")))
local macro_rules | `(tactic| walk_at "sq") => `(tactic| first
  | ((with_reducible show SqL _ _ _ _); assumption)
  | ((with_reducible show SqT _ _ _ _); assumption)
  | exact SqL.of (by assumption)
  | exact SqL.of upd_same
  | exact SqT.of (by assumption)
  | exact SqT.of upd_same
  | (apply SqL.of; walk_at "hp")
  | (apply SqT.of; walk_at "hp"))
local macro_rules | `(tactic| walk_at "len") => `(tactic| first
  | (with_reducible assumption)
  | exact sz_small (by omega)
  | exact sz_less (by omega)
  | decide
  | (refine sz_small ?_; simp only [List.length_append, List.length_cons, List.length_nil, List.length_map, str_len]; omega)
  | (refine sz_less ?_; simp only [List.length_append, List.length_cons, List.length_nil, List.length_map, str_len]; omega))
local macro_rules | `(tactic| walk_at "cond") => `(tactic| first
  | omega
  | (split <;> omega)
  | (with_reducible assumption)
  | exact .inl ⟨by omega, by omega⟩
  | exact .inr ⟨by omega, by omega⟩
  | exact ⟨by omega, by omega⟩
  | (show (0 : Int) < _; omega)
  | (show (0 : Int) < _; decide +kernel)
  | exact ⟨by omega, by omega, by decide⟩
  | walk_at "len"
  | rfl
  | (show CMulW _ _; unfold CMulW; decide +kernel)
  | exact ⟨_, rfl⟩
  | decide +kernel
  | exact ⟨_, by walk_at "sq"⟩
  | exact .inl ⟨rfl, _, by walk_at "sq"⟩)
local macro_rules | `(tactic| walk_at "at") => `(tactic| first
  | (with_reducible assumption)
  | exact atI_nat (by assumption)
  | exact atI_last _ _
  | exact atI_nat (j := 0) rfl
  | exact atI_nat (j := 1) rfl
  | exact atI_nat (j := 2) rfl
  | exact atI_nat (j := 3) rfl
  | exact atI_nat (j := 4) rfl)
local macro_rules | `(tactic| walk_at "ix") => `(tactic| first
  | (with_reducible assumption)
  | (with_reducible exact ixN_0 (by simp; done))
  | (with_reducible exact ixN_1 (by simp; done))
  | (with_reducible exact ixN_2 (by simp; done))
  | (with_reducible exact Evl.ixN_nat (by assumption))
  | (with_reducible exact Evl.ixN_nat (by omega)))
local macro_rules | `(tactic| walk_at "v") => `(tactic| first
  | exact val_var rfl
  | (with_reducible exact val_c)
  | (with_reducible apply val_orV; (case ha => walk_at "v"); (case hb => walk_at "v"))
  | (with_reducible apply val_andV; (case ha => walk_at "v"); (case hb => walk_at "v"))
  | (with_reducible apply val_notV; walk_at "v")
  | (with_reducible apply val_ifS; (case h => walk_at "w"); (case ha => walk_at "v"); (case hb => walk_at "v"))
  | (with_reducible apply val_ifI; (case h => walk_at "w"); (case ha => walk_at "v"); (case hb => walk_at "v"))
  | (with_reducible apply val_ifB; (case h => walk_at "w"); (case ha => walk_at "v"); (case hb => walk_at "v"))
  | (with_reducible apply val_eqS; (case ha => walk_at "v"); (case hb => walk_at "v"))
  | (with_reducible apply val_eqI; (case ha => walk_at "v"); (case hb => walk_at "v"))
  | (with_reducible apply val_neS; (case ha => walk_at "v"); (case hb => walk_at "v"))
  | (with_reducible apply val_neI; (case ha => walk_at "v"); (case hb => walk_at "v"))
  | (with_reducible apply val_op; (case ha => walk_at "v"); (case hb => walk_at "v"); (case hr => exact fun Q q => ⟨_, _, rfl, rfl, q⟩)))
local macro_rules | `(tactic| walk_at "w") => `(tactic| first
  | (with_reducible apply ans_or2; (case h1 => walk_at "w"); (case h2 => walk_at "w"))
  | (with_reducible apply ans_and2; (case h1 => walk_at "w"); (case h2 => walk_at "w"))
  | (with_reducible apply ans_not; walk_at "w")
  | (with_reducible apply ans_test; walk_at "v")
  | (with_reducible apply ans_val; walk_at "v"))
local macro_rules | `(tactic| walk_at "s2") => `(tactic| first
  | refine ⟨_, rfl, ?_⟩
  | refine ⟨_, _, rfl, rfl, ?_⟩
  | (refine And.intro ?cc ?_; (case cc => walk_at "cond"))
  | refine ⟨_, _, _, _, rfl, rfl, by walk_at "sq", by walk_at "at", ?_⟩
  | refine ⟨_, _, _, _, rfl, rfl, by walk_at "hp", by walk_at "ix", ?_⟩
  | refine ⟨_, _, _, _, rfl, rfl, by walk_at "hp", by walk_at "hp", by walk_at "len", ?_⟩
  | refine ⟨_, _, _, rfl, rfl, by walk_at "len", by walk_at "at", ?_⟩
  | refine ⟨_, _, _, rfl, rfl, by walk_at "hp", by walk_at "len", ?_⟩
  | refine ⟨_, _, _, rfl, rfl, by walk_at "hp", by walk_at "at", ?_⟩
  | refine ⟨_, _, rfl, rfl, by walk_at "sq", ?_⟩
  | refine ⟨_, _, rfl, rfl, by walk_at "len", ?_⟩
  | refine ⟨_, _, rfl, by walk_at "sq", ?_⟩
  | refine ⟨_, _, rfl, .inl (by walk_at "sq"), ?_⟩
  | refine ⟨_, _, rfl, .inr (by walk_at "sq"), ?_⟩
  | refine ⟨_, _, rfl, by walk_at "sq", rfl, ?_⟩
  | refine ⟨_, fun _ _ h => h, ?_⟩
  | refine .inl ⟨_, rfl, ?_⟩
  | refine ⟨_, _, .type "int", .type _, true, rfl, ClsV.ty _, .base (.int _), kit_ty (by decide +kernel), ?_⟩
  | refine ⟨_, _, .type "int", .type _, false, rfl, ClsV.ty _, .base (.int _), kit_ty (by decide +kernel), ?_⟩
  | refine ⟨_, _, .type "bool", .type _, true, rfl, ClsV.ty _, .base (.bl _), kit_ty (by decide +kernel), ?_⟩
  | refine ⟨_, _, .type "bool", .type _, false, rfl, ClsV.ty _, .base (.bl _), kit_ty (by decide +kernel), ?_⟩
  | refine ⟨_, _, .type "str", .type _, true, rfl, ClsV.ty _, .base (.str _), kit_ty (by decide +kernel), ?_⟩
  | refine ⟨_, _, .type "str", .type _, false, rfl, ClsV.ty _, .base (.str _), kit_ty (by decide +kernel), ?_⟩
  | refine ⟨_, _, .type "NoneType", .type _, true, rfl, ClsV.ty _, .base (.non), kit_ty (by decide +kernel), ?_⟩
  | refine ⟨_, _, .type "NoneType", .type _, false, rfl, ClsV.ty _, .base (.non), kit_ty (by decide +kernel), ?_⟩
  | refine ⟨_, _, .type "list", .type _, true, rfl, ClsV.ty _, .base (.lst (by walk_at "hp")), kit_ty (by decide +kernel), ?_⟩
  | refine ⟨_, _, .type "list", .type _, false, rfl, ClsV.ty _, .base (.lst (by walk_at "hp")), kit_ty (by decide +kernel), ?_⟩
  | refine ⟨_, _, .type "tuple", .type _, true, rfl, ClsV.ty _, .base (.tup (by walk_at "hp")), kit_ty (by decide +kernel), ?_⟩
  | refine ⟨_, _, .type "tuple", .type _, false, rfl, ClsV.ty _, .base (.tup (by walk_at "hp")), kit_ty (by decide +kernel), ?_⟩
  | fail)
local macro_rules | `(tactic| walk_at "s1") => `(tactic| first
  | (with_reducible refine go_gcons ?_)
  | (with_reducible refine go_gnil ?_)
  | (with_reducible refine go_seqM ?_)
  | (with_reducible refine go_nextM ?_)
  | (with_reducible refine go_contM ?_)
  | (with_reducible refine go_brkM ?_)
  | (with_reducible refine go_retM ?_)
  | (with_reducible refine go_asgM ?_)
  | (with_reducible refine go_test ?_)
  | (with_reducible refine go_rI0 ?_)
  | (with_reducible refine go_op ?_)
  | (with_reducible refine go_var rfl ?_)
  | ((with_reducible show tFor (iRng1 _) _ _ _ _ _); refine (show iRng1 _ _ _ _ from ?_))
  | (with_reducible refine go_rng1 ?_)
  | (with_reducible refine go_c ?_)
  | (with_reducible apply go_pick; (case hs => walk_at "hp"); (case h0 => walk_at "cond"); (case h1 => walk_at "cond"); (case' q => intro k a b c h0 h1))
  | (with_reducible refine go_nil ?_)
  | (with_reducible refine go_cons ?_)
  | (with_reducible refine go_call ?_)
  | (with_reducible refine go_cb ?_)
  | (with_reducible refine go_next ?_)
  | (with_reducible refine go_cont ?_)
  | (with_reducible refine go_ret ?_)
  | (with_reducible refine go_name ?_)
  | (with_reducible refine go_seq ?_)
  | (with_reducible refine go_asg ?_)
  | (with_reducible apply go_or; (case h => walk_at "v"))
  | (with_reducible apply go_and; (case h => walk_at "v"))
  | (with_reducible apply go_andL; (case h => walk_at "v"); (case' h1 => intro e); (case' h2 => intro e))
  | (with_reducible apply go_orL; (case h => walk_at "v"); (case' h1 => intro e); (case' h2 => intro e))
  | (with_reducible apply go_ifE; (case h => walk_at "v"))
  | (with_reducible apply go_ifOr; (case h => walk_at "w"); (case' h1 => intro e); (case' h2 => intro e))
  | (with_reducible apply go_ifAnd; (case h => walk_at "w"); (case' h1 => intro e); (case' h2 => intro e))
  | (with_reducible refine go_min ?_)
  | (with_reducible refine iteT ?_)
  | (with_reducible refine iteF ?_)
  | (with_reducible refine iteD (fun _ => ?_) (fun e => absurd rfl e))
  | (with_reducible refine iteS (fun e => ?_) (fun e => ?_))
  | (with_reducible refine iteI (fun e => ?_) (fun e => ?_))
  | (with_reducible refine iteSn (fun e => ?_) (fun e => ?_))
  | (with_reducible refine iteIn (fun e => ?_) (fun e => ?_))
  | (with_reducible refine iteD (fun e => ?_) (fun e => ?_))
  | (with_reducible refine iteDn (fun e => ?_) (fun e => ?_))
  | (with_reducible refine ite2 (fun e => ?_) (fun e => ?_))
  | (refine fun (p : Addr) (hp : _ = none) => ?_)
  | ((conv => whnf); walk_at "s2")
  | fail)
local macro_rules | `(tactic| walk_at "s") => `(tactic| repeat' (first
  | (with_reducible refine go_gcons ?_)
  | (with_reducible refine go_gnil ?_)
  | (with_reducible refine go_seqM ?_)
  | (with_reducible refine go_nextM ?_)
  | (with_reducible refine go_contM ?_)
  | (with_reducible refine go_brkM ?_)
  | (with_reducible refine go_retM ?_)
  | (with_reducible refine go_asgM ?_)
  | (with_reducible refine go_test ?_)
  | (with_reducible refine go_rI0 ?_)
  | (with_reducible refine go_op ?_)
  | (with_reducible refine go_var rfl ?_)
  | ((with_reducible show tFor (iRng1 _) _ _ _ _ _); refine (show iRng1 _ _ _ _ from ?_))
  | (with_reducible refine go_rng1 ?_)
  | (with_reducible refine go_c ?_)
  | (with_reducible apply go_pick; (case hs => walk_at "hp"); (case h0 => walk_at "cond"); (case h1 => walk_at "cond"); (case' q => intro k a b c h0 h1))
  | (with_reducible refine go_nil ?_)
  | (with_reducible refine go_cons ?_)
  | (with_reducible refine go_call ?_)
  | (with_reducible refine go_cb ?_)
  | (with_reducible refine go_next ?_)
  | (with_reducible refine go_cont ?_)
  | (with_reducible refine go_ret ?_)
  | (with_reducible refine go_name ?_)
  | (with_reducible refine go_seq ?_)
  | (with_reducible refine go_asg ?_)
  | (with_reducible apply go_or; (case h => walk_at "v"))
  | (with_reducible apply go_and; (case h => walk_at "v"))
  | (with_reducible apply go_andL; (case h => walk_at "v"); (case' h1 => intro e); (case' h2 => intro e))
  | (with_reducible apply go_orL; (case h => walk_at "v"); (case' h1 => intro e); (case' h2 => intro e))
  | (with_reducible apply go_ifE; (case h => walk_at "v"))
  | (with_reducible apply go_ifOr; (case h => walk_at "w"); (case' h1 => intro e); (case' h2 => intro e))
  | (with_reducible apply go_ifAnd; (case h => walk_at "w"); (case' h1 => intro e); (case' h2 => intro e))
  | (with_reducible refine go_min ?_)
  | (with_reducible refine iteT ?_)
  | (with_reducible refine iteF ?_)
  | (with_reducible refine iteD (fun _ => ?_) (fun e => absurd rfl e))
  | (with_reducible refine iteS (fun e => ?_) (fun e => ?_))
  | (with_reducible refine iteI (fun e => ?_) (fun e => ?_))
  | (with_reducible refine iteSn (fun e => ?_) (fun e => ?_))
  | (with_reducible refine iteIn (fun e => ?_) (fun e => ?_))
  | (with_reducible refine iteD (fun e => ?_) (fun e => ?_))
  | (with_reducible refine iteDn (fun e => ?_) (fun e => ?_))
  | (with_reducible refine ite2 (fun e => ?_) (fun e => ?_))
  | (refine fun (p : Addr) (hp : _ = none) => ?_)
  | ((conv => whnf); walk_at "s2")
  | fail))

theorem same_l {H H' : Hp} {K : PySem.W.Frag} {a : Addr} {xs : List V} (e : Same H H') (h : SqL K H a xs) : SqL K H' a xs := by
  rcases h with (h | ⟨o, h⟩) | h
  · exact .inl (.inl (e _ _ h))
  · exact .inl (.inr ⟨o, e _ _ h⟩)
  · exact .inr h
theorem rowsHid {H : Hp} {r s : Addr} {rs : List Rw} {ys : List V} (h : RowsT H r rs) (hr : r ≠ s) (hs : H s = some (.lst ys)) : RowsT (LW.wo s H) r rs := by
  obtain ⟨xs, h1, h2⟩ := h
  exact ⟨xs, (wo_ne hr).trans h1, h2.mono fun _ _ => RowT.ts ((Ts.refl H).hid hs)⟩
theorem lot_mn {rs : List Rw} (w : WF rs) {ws : List Int} (hw : InR rs ws) {ways : List (List Pr)} (h : Lot rs ws ways) : Mn rs ws (ways.length : Int) := by
  obtain ⟨fs, ⟨m1, m2, R, hS, hT, cl⟩, e⟩ := h.most
  rw [e]
  exact (mn_of w hw m2 hS hT cl).1
/-- the ends of the orders so far: lead is the first order -/
def Ends (rs : List Rw) (ws : List Int) (s E0 : Addr) (H : Hp) (i : Nat) (es : List V) : Prop := ∃ lead : List Int, i = 0 ∨ ∃ (t0 ol : Addr) (num : Int) (rest : List V), es = .ref t0 :: rest ∧ H t0 = some (.tup [.ref ol, .int num]) ∧ H ol = some (.lst (lead.map V.int)) ∧ ol ≠ s ∧ ol ≠ E0 ∧ lead.length ≤ 6 ∧ InR rs lead ∧ Mn rs (ws ++ lead) num ∧ ∀ v ∈ rest, ∃ t l, v = .ref t ∧ H t = some (.tup [.ref l, .int num])
section
variable {P : Program} {w : World} {K : PySem.W.Frag} {mg : Str → Option Value} {base : Heap}
def spLaw (K : PySem.W.Frag) : Sp := fun vs H Q _ => ∃ (a : Addr) (ns : List Int), vs = [.ref a] ∧ SqL K H a (ns.map V.int) ∧ ns.length ≤ 63 ∧ ∀ H', Q (.bl true) H'
theorem ok_law (T : Top w K mg) : FnOk P w K mg base CX0 8 T.a_law T.d_law ["script"] (spLaw K) := by
  have G_law_source := ok_source (P := P) (w := w) (base := base) T
  have G_law_pick := ok_pick (P := P) (w := w) (base := base) T
  have G_law_c_any := ok_any (P := P) (w := w) (base := base) T
  have G_law_c_net := ok_net (P := P) (w := w) (base := base) T
  have G_law_c_goals := ok_goals (P := P) (w := w) (base := base) T
  have G_law_c_made := ok_cmade (P := P) (w := w) (base := base) T
  have G_law_c_flow := ok_flowX (P := P) (w := w) (base := base) T
  have G_law_c_earliest := ok_earliest (P := P) (w := w) (base := base) T
  have G_law_shuffled := ok_shuf (P := P) (w := w) (base := base) T
  have G_law_same := ok_same (P := P) (w := w) (base := base) T 1
  have G_Net___init__ := ok_init (P := P) (w := w) (base := base) T
  have G_Net_greatest := ok_greatest (P := P) (w := w) (base := base) T
  refine T.F_law.ok sc_law (fun vs H Q E h => ?_) (fun cdv A0 outer s0 H vs Q E hr h => ?_)
  · obtain ⟨a, ns, rfl, _⟩ := h
    rfl
  · obtain ⟨a, ns, rfl, hS, hn, q⟩ := h
    have hu := hu_of hr
    refine ⟨_, (pss_cons (ps_set (i := 1) sc_law.nd rfl (.inr rfl) (pe_call G_law_source (hr.mono (by omega)) (by rfl) T.m_law_source T.F_law_source.kp T.b_law_source .nil pass0 (pa_cons (pv 0) (pa_cons pe_int pa_nil))))
    (pss_cons (ps_asg (pe_call G_law_c_any (hr.mono (by omega)) (by rfl) T.m_law_c_any T.F_law_c_any.kp T.b_law_c_any .nil pass0 (pa_cons (pv 1) pa_nil)) (pg_tup rfl (pgs_cons (pg_name (i := 2) sc_law.nd rfl (.inr rfl)) (pgs_cons (pg_name (i := 3) sc_law.nd rfl (.inl rfl)) pgs_nil))))
    (Evl.pss_cut (ps_if (pt_cmpR op_eq (pe_call G_law_pick (hr.mono (by omega)) (by rfl) T.m_law_pick T.F_law_pick.kp T.b_law_pick .nil pass0 (pa_cons (pv 1) (pa_cons pe_int pa_nil))) pe_int (nomark _))
    (pss_cons (ps_set (i := 2) sc_law.nd rfl (.inr rfl) (pe_call G_law_c_net (hr.mono (by omega)) (by rfl) T.m_law_c_net T.F_law_c_net.kp T.b_law_c_net .nil pass0 (pa_cons (pv 1) (pa_cons (pe_op op_add pe_int (pe_call G_law_pick (hr.mono (by omega)) (by rfl) T.m_law_pick T.F_law_pick.kp T.b_law_pick .nil pass0 (pa_cons (pv 1) (pa_cons pe_int pa_nil)))) pa_nil))))
    (pss_one (ps_set (i := 3) sc_law.nd rfl (.inl rfl) (pe_call G_law_c_goals (hr.mono (by omega)) (by rfl) T.m_law_c_goals T.F_law_c_goals.kp T.b_law_c_goals .nil pass0 (pa_cons (pv 1) (pa_cons (pv 2) (pa_cons pe_int pa_nil)))))))
    pss_nil)
    (pss_cons (ps_set (i := 4) sc_law.nd rfl (.inr rfl) (pe_make T.M_Net___init__ G_Net___init__ (hr.mono (by omega)) rfl T.m_Net T.b_Net___init__ .nil pass0 (pa_cons (pv 2) pa_nil)))
    (pss_cons (ps_set (i := 5) sc_law.nd rfl (.inl rfl) (pe_ix ix_tup (pe_meth (pv 4) T.cl_Net T.M_Net_greatest G_Net_greatest (hr.mono (by omega)) T.b_Net_greatest .nil pass0 (pa_cons (pv 3) pa_nil)) pe_int (fun _ _ => rfl)))
    (pss_cons (ps_if (pt_not (pt_val (pe_call G_law_same (hr.mono (by omega)) (by rfl) T.m_law_same T.F_law_same.kp T.b_law_same .nil pass0 (pa_cons (pv 5) (pa_cons (pe_ix ix_tup (pe_call G_law_c_flow (hr.mono (by omega)) (by rfl) T.m_law_c_flow T.F_law_c_flow.kp T.b_law_c_flow .nil pass0 (pa_cons (pv 2) (pa_cons (pv 3) pa_nil))) pe_int (fun _ _ => rfl)) pa_nil)))))
    (pss_one (ps_ret pe_bl))
    pss_nil)
    (pss_cons (ps_set (i := 6) sc_law.nd rfl (.inl rfl) (pe_call G_law_c_made (hr.mono (by omega)) (by rfl) T.m_law_c_made T.F_law_c_made.kp T.b_law_c_made .nil pass0 (pa_cons (pv 2) (pa_cons (pe_call G_law_c_earliest (hr.mono (by omega)) (by rfl) T.m_law_c_earliest T.F_law_c_earliest.kp T.b_law_c_earliest .nil pass0 (pa_cons (pv 2) (pa_cons (pv 3) pa_nil))) pa_nil))))
    (pss_cons (ps_set (i := 7) sc_law.nd rfl (.inl rfl) (pe_lst pa_nil))
    (pss_cons (ps_for PassesOwn.never rfl (pi_range1 rfl T.m_range (pa_cons (pe_callB call_len_seq (by rfl) T.m_len (by decide +kernel) (pa_cons (pv 2) pa_nil)) pa_nil)) (pg_name (i := 8) sc_law.nd rfl (.inl rfl))
    (pss_cons (ps_set (i := 9) sc_law.nd rfl (.inl rfl) (pe_ix ix_tup (pe_meth (pv 4) T.cl_Net T.M_Net_greatest G_Net_greatest (hr.mono (by omega)) T.b_Net_greatest .nil pass0 (pa_cons (pe_op op_cat (pv 3) (pe_lst (pa_cons (pv 8) pa_nil))) pa_nil)) pe_int (fun _ _ => rfl)))
    (pss_cons (ps_if (pt_not (pt_val (pe_call G_law_same (hr.mono (by omega)) (by rfl) T.m_law_same T.F_law_same.kp T.b_law_same .nil pass0 (pa_cons (pv 9) (pa_cons (pe_ix ix_tup (pe_call G_law_c_flow (hr.mono (by omega)) (by rfl) T.m_law_c_flow T.F_law_c_flow.kp T.b_law_c_flow .nil pass0 (pa_cons (pv 2) (pa_cons (pe_op op_cat (pv 3) (pe_lst (pa_cons (pv 8) pa_nil))) pa_nil))) pe_int (fun _ _ => rfl)) pa_nil)))))
    (pss_one (ps_ret pe_bl))
    pss_nil)
    (pss_cons (ps_if (PW.pt (pw_or (pt_cmpR op_lt (pv 9) (pv 5) (nomark _)) (pw_or (pt_cmpR op_gt (pv 9) (pe_op op_add (pv 5) (pe_ix ix_tup (pe_ix ix_list (pv 2) (pv 8) (fun _ _ => rfl)) pe_int (fun _ _ => rfl))) (nomark _)) (pw_or1 (pt_cmpR op_ne (pe_cmpR op_eq (pv 9) (pv 5) (nomark _)) (pe_ix ix_list (pv 6) (pv 8) (fun _ _ => rfl)) (nomark _))))))
    (pss_one (ps_ret pe_bl))
    pss_nil)
    (pss_one (ps_if (pt_val (pe_ix ix_list (pv 6) (pv 8) (fun _ _ => rfl)))
    (pss_one (ps_expr (pe_bm PySem.F.plainAttrs_list PySem.F.slot_list_append PySem.F.type_list_append mt_append (pv 7) (pa_cons (pv 8) pa_nil))))
    pss_nil))))))
    (pss_cons (ps_set (i := 10) sc_law.nd rfl (.inl rfl) (pe_lst pa_nil))
    (pss_cons (ps_for PassesOwn.never rfl (pi_range1 rfl T.m_range (pa_cons pe_int pa_nil)) (pg_name (i := 11) sc_law.nd rfl (.inl rfl))
    (pss_cons (ps_set (i := 12) sc_law.nd rfl (.inl rfl) (pe_slice sl_list (pe_call G_law_shuffled (hr.mono (by omega)) (by rfl) T.m_law_shuffled T.F_law_shuffled.kp T.b_law_shuffled .nil pass0 (pa_cons (pv 1) (pa_cons (pe_listRg rfl (by rfl) T.m_list (prg_1 (by rfl) T.m_range (pe_callB call_len_seq (by rfl) T.m_len (by decide +kernel) (pa_cons (pv 2) pa_nil)))) pa_nil))) po_none (po_some pe_int)))
    (Evl.pss_cut (ps_if (pt_cmpR op_eq (pv 11) pe_int (nomark _))
    (pss_one (ps_set (i := 12) sc_law.nd rfl (.inl rfl) (pe_listRev rfl (by rfl) T.m_list (by rfl) T.m_reversed (pe_ix ix_tup (pe_ix ix_list (pv 10) pe_int (fun _ _ => rfl)) pe_int (fun _ _ => rfl)))))
    pss_nil)
    (pss_cons (ps_set (i := 13) sc_law.nd rfl (.inl rfl) (pe_callTy call_list_of (by rfl) T.m_list (by decide +kernel) (pa_cons (pv 3) pa_nil)))
    (pss_cons (ps_set (i := 14) sc_law.nd rfl (.inl rfl) (pv 5))
    (pss_cons (ps_for PassesOwn.never rfl (pi_list (pv 12)) (pg_name (i := 8) sc_law.nd rfl (.inl rfl))
    (pss_cons (ps_set (i := 9) sc_law.nd rfl (.inl rfl) (pe_ix ix_tup (pe_meth (pv 4) T.cl_Net T.M_Net_greatest G_Net_greatest (hr.mono (by omega)) T.b_Net_greatest .nil pass0 (pa_cons (pe_op op_cat (pv 13) (pe_lst (pa_cons (pv 8) pa_nil))) pa_nil)) pe_int (fun _ _ => rfl)))
    (pss_cons (ps_if (PW.pt (pw_or (pt_cmpR op_lt (pv 9) (pv 14) (nomark _)) (pw_or1 (pt_cmpR op_gt (pv 9) (pe_op op_add (pv 14) (pe_ix ix_tup (pe_ix ix_list (pv 2) (pv 8) (fun _ _ => rfl)) pe_int (fun _ _ => rfl))) (nomark _)))))
    (pss_one (ps_ret pe_bl))
    pss_nil)
    (pss_cons (ps_if (PW.pt (pw_and (pt_cmpR op_in_seq (pv 8) (pv 7) (by rfl)) (pw_and1 (pt_cmpR op_ne (pv 9) (pv 14) (nomark _)))))
    (pss_one (ps_ret pe_bl))
    pss_nil)
    (pss_cons (ps_expr (pe_bm PySem.F.plainAttrs_list PySem.F.slot_list_append PySem.F.type_list_append mt_append (pv 13) (pa_cons (pv 8) pa_nil)))
    (pss_one (ps_set (i := 14) sc_law.nd rfl (.inl rfl) (pv 9))))))))
    (pss_cons (ps_if (pt_cmpR op_ne (pe_ix ix_tup (pe_meth (pv 4) T.cl_Net T.M_Net_greatest G_Net_greatest (hr.mono (by omega)) T.b_Net_greatest .nil pass0 (pa_cons (pe_op op_cat (pv 13) (pv 7)) pa_nil)) pe_int (fun _ _ => rfl)) (pv 14) (nomark _))
    (pss_one (ps_ret pe_bl))
    pss_nil)
    (pss_one (ps_expr (pe_bm PySem.F.plainAttrs_list PySem.F.slot_list_append PySem.F.type_list_append mt_append (pv 10) (pa_cons (pe_tup (pa_cons (pv 12) (pa_cons (pv 14) pa_nil))) pa_nil)))))))))))
    (pss_cons (ps_if (PW.pt (pw_or (pt_cmpR op_ne (pe_ix ix_tup (pe_ix ix_list (pv 10) pe_int (fun _ _ => rfl)) pe_int (fun _ _ => rfl)) (pe_ix ix_tup (pe_ix ix_list (pv 10) pe_int (fun _ _ => rfl)) pe_int (fun _ _ => rfl)) (nomark _)) (pw_or1 (pt_cmpR op_ne (pe_ix ix_tup (pe_ix ix_list (pv 10) pe_int (fun _ _ => rfl)) pe_int (fun _ _ => rfl)) (pe_ix ix_tup (pe_call G_law_c_flow (hr.mono (by omega)) (by rfl) T.m_law_c_flow T.F_law_c_flow.kp T.b_law_c_flow .nil pass0 (pa_cons (pv 2) (pa_cons (pe_op op_cat (pv 3) (pe_ix ix_tup (pe_ix ix_list (pv 10) pe_int (fun _ _ => rfl)) pe_int (fun _ _ => rfl))) pa_nil))) pe_int (fun _ _ => rfl)) (nomark _)))))
    (pss_one (ps_ret pe_bl))
    pss_nil)
    (pss_cons (ps_set (i := 15) sc_law.nd rfl (.inl rfl) (pe_op op_cat (pv 3) (pe_lc (own := [("turn", 11)]) rfl sc_law.nd (pi_range1 rfl T.m_range (pa_cons pe_int pa_nil)) (blkOk_by (own := [("turn", 11)]) (N := ["script", "source", "rows", "wanted", "net", "base", "flags", "free", "node", "more", "ends", "turn", "order", "elder", "number", "first", "second", "common", "numbers", "one"]) (sc := defScope s_law) (by decide +kernel)) (fun _ _ _ _ _ => (pg_name (i := 11) sc_law.nd rfl (.inl rfl))) (fun _ _ _ _ _ => pts_nil) (fun _ _ _ _ _ => (pe_call G_law_pick (hr.mono (by omega)) (by rfl) T.m_law_pick T.F_law_pick.kp T.b_law_pick .nil pass0 (pa_cons (pv 1) (pa_cons (pe_callB (call_lenB (K := K) rfl) (by rfl) T.m_len (by decide +kernel) (pa_cons (pv 2) pa_nil)) pa_nil)))))))
    (pss_cons (ps_set (i := 16) sc_law.nd rfl (.inr rfl) (pe_op op_cat (pe_lc (own := [("turn", 11)]) rfl sc_law.nd (pi_range1 rfl T.m_range (pa_cons pe_int pa_nil)) (blkOk_by (own := [("turn", 11)]) (N := ["script", "source", "rows", "wanted", "net", "base", "flags", "free", "node", "more", "ends", "turn", "order", "elder", "number", "first", "second", "common", "numbers", "one"]) (sc := defScope s_law) (by decide +kernel)) (fun _ _ _ _ _ => (pg_name (i := 11) sc_law.nd rfl (.inl rfl))) (fun _ _ _ _ _ => pts_nil) (fun _ _ _ _ _ => (pe_call G_law_pick (hr.mono (by omega)) (by rfl) T.m_law_pick T.F_law_pick.kp T.b_law_pick .nil pass0 (pa_cons (pv 1) (pa_cons (pe_callB (call_lenB (K := K) rfl) (by rfl) T.m_len (by decide +kernel) (pa_cons (pv 2) pa_nil)) pa_nil))))) (pe_slice sl_list (pv 3) po_none (po_some pe_int))))
    (pss_cons (ps_setLc (i := 17) (own := [("node", 8)]) rfl sc_law.nd rfl rfl (sw_true rfl rfl rfl (by decide +kernel)) (pi_list (pv 15)) (blkOk_by (own := [("node", 8)]) (N := ["script", "source", "rows", "wanted", "net", "base", "flags", "free", "node", "more", "ends", "turn", "order", "elder", "number", "first", "second", "common", "numbers", "one"]) (sc := defScope s_law) (by decide +kernel)) (fun _ _ _ _ _ => (pg_name (i := 8) sc_law.nd rfl (.inl rfl))) (fun _ _ _ _ _ => pts_one (pt_cmpR (op_inB (K := K) rfl) (pv 8) (pv 16) (by rfl))) (fun _ _ _ _ _ => (pv 8)))
    (pss_cons (ps_setLc (i := 18) (own := [("one", 19)]) rfl sc_law.nd rfl rfl (sw_true rfl rfl rfl (by decide +kernel)) (pi_list (pe_lst (pa_cons (pv 15) (pa_cons (pv 16) (pa_cons (pe_op op_cat (pv 15) (pv 16)) (pa_cons (pv 17) pa_nil)))))) (blkOk_by (own := [("one", 19)]) (N := ["script", "source", "rows", "wanted", "net", "base", "flags", "free", "node", "more", "ends", "turn", "order", "elder", "number", "first", "second", "common", "numbers", "one"]) (sc := defScope s_law) (by decide +kernel)) (fun _ _ _ _ _ => (pg_name (i := 19) sc_law.nd rfl (.inl rfl))) (fun _ _ _ _ _ => pts_nil) (fun _ _ _ _ _ => (pe_ix (ix_tupB (K := K) rfl) (pe_meth (pv 4) T.cl_Net T.M_Net_greatest G_Net_greatest (hr.mono (by omega)) T.b_Net_greatest .nil pass0 (pa_cons (pv 19) pa_nil)) pe_int (fun _ _ => rfl))))
    (pss_one (ps_ret (pe_and (pe_cmpR op_le (pe_op op_add (pe_ix ix_list (pv 18) pe_int (fun _ _ => rfl)) (pe_ix ix_list (pv 18) pe_int (fun _ _ => rfl))) (pe_op op_add (pe_ix ix_list (pv 18) pe_int (fun _ _ => rfl)) (pe_ix ix_list (pv 18) pe_int (fun _ _ => rfl))) (nomark _)) (pe_one (pe_cmpR op_eq (pe_ix ix_list (pv 18) pe_int (fun _ _ => rfl)) (pe_ix ix_tup (pe_call G_law_c_flow (hr.mono (by omega)) (by rfl) T.m_law_c_flow T.F_law_c_flow.kp T.b_law_c_flow .nil pass0 (pa_cons (pv 2) (pa_cons (pe_op op_cat (pv 15) (pv 16)) pa_nil))) pe_int (fun _ _ => rfl)) (nomark _)))))))))))))))))))))), ?_⟩
    walk_at "s"
    refine ⟨a, ns, 0, rfl, hS, hn, by omega, fun s c1 c2 c3 H1 sm1 ns1 hs1 => ?_⟩
    walk_at "s"
    refine ⟨⟨c1, c2, c3, hs1⟩, fun t r k H2 rs ws but2 nr nk ht hR hWF l0 l9 hk hin hl4 hs2 => ?_⟩
    have nsr : s ≠ r := ne_of_none hs1 nr
    have nsk : s ≠ k := ne_of_none hs1 nk
    obtain ⟨c1, c2, c3, hs2⟩ := hs2
    walk_at "s"
    refine go_cutM (fun σ' H3 => ∃ (r k : Addr) (rs : List Rw) (ws : List Int), σ' = [some (.ref a), some (.ref s), some (.ref r), some (.ref k), none, none, none, none, none, none, none, none, none, none, none, none, none, none, none, none] ∧ Src H3 s ∧ s ≠ r ∧ s ≠ k ∧ RowsT H3 r rs ∧ WF rs ∧ 0 < rs.length ∧ rs.length ≤ 13 ∧ Ints H3 k ws ∧ InR rs ws ∧ ws.length ≤ 4) ?_ fun σ' H3 hM => ?_
    · obtain ⟨ys, hy, hE⟩ := id hR
      have hk' : H2 k = some (.lst (ws.map V.int)) := hk
      walk_at "s"
      · rename_i k1 a1 b1 d1 k10 k11 e k2 a2 b2 d2 k20 k21
        refine ⟨s, 7 + k2, rfl, ⟨a2, b2, d2, upd_same⟩, by omega, by omega, fun r' H' rs' but' nr' hs' hR' hWF' hl' => ?_⟩
        have nsr' : s ≠ r' := ne_of_none upd_same nr'
        walk_at "s"
        refine ⟨s, r', rs', rfl, hs', hR', nsr', by omega, by omega, fun k' H'' gs but'' nk' hs'' hg hgl hgin => ?_⟩
        obtain ⟨x1, x2, x3, hs'⟩ := hs'
        have nsk' : s ≠ k' := ne_of_none hs' nk'
        obtain ⟨ys', hy', hE'⟩ := hR'
        walk_at "s"
        exact ⟨r', k', rs', gs, rfl, hs'', nsr', nsk', ⟨ys', but'' _ _ nsr'.symm hy', hE'.mono fun _ _ => RowT.ts (Ts.but but'' hs')⟩, hWF', by omega, by omega, hg, hgin, by omega⟩
      · rename_i k1 a1 b1 d1 k10 k11 e
        exact ⟨r, k, rs, ws, rfl, ⟨_, _, _, upd_same⟩, nsr, nsk, ⟨ys, (upd_ne nsr.symm).trans hy, hE.mono fun _ _ => RowT.ts (Ts.upd hs2)⟩, hWF, l0, by omega, (upd_ne nsk.symm).trans hk', hin, hl4⟩
    clear ht hk hR hs2 nsr nsk nr nk hin l0 l9 hWF hl4
    obtain ⟨r, k, rs, ws, rfl, ⟨c1, c2, c3, hs3⟩, nsr, nsk, hR, hWF, l0, l13, hk, hin, hl4⟩ := hM
    obtain ⟨xs, hX, hE⟩ := id hR
    have hXl := hE.len
    walk_at "s"
    intro p dx np ndx npdx
    have smA : Same H3 (upd (upd H3 dx (.own p)) p (.ins T.C_Net dx [])) := (same_new ndx).trans (same_new ((upd_ne npdx.symm).trans np))
    refine ⟨p, r, dx, rs, rfl, upd_same, hR.same smA, hWF, by omega, fun H4 but4 hnet => ⟨rfl, ?_⟩⟩
    have sm4 : Same H3 H4 := (((But.of (same_new ndx)).trans But.upd).trans but4).same np
    have hs4 := sm4 _ _ hs3
    have hNet : NetAt T (LW.wo s H4) p rs := hnet.hid (smA _ _ hs3) hs4
    have hRow : RowsT (LW.wo s H4) r rs := rowsHid (hR.same sm4) nsr.symm hs4
    have hkB : LW.wo s H4 k = some (.lst (ws.map V.int)) := (wo_ne nsk.symm).trans (sm4 _ _ hk)
    obtain ⟨HB, eHB⟩ : ∃ HB, LW.wo s H4 = HB := ⟨_, rfl⟩
    have smB : Same HB H4 := by
      rw [← eHB]
      exact wo_same
    rw [eHB] at hNet hRow hkB
    obtain ⟨xs, hX, hRow'⟩ := id hRow
    have hXl := hRow'.len
    obtain ⟨dx, on, hp, hRL⟩ := id hNet
    have hp4 := smB _ _ hp
    walk_at "s"
    refine ⟨p, dx, _, rfl, hp4, rfl, ?_⟩
    walk_at "s"
    refine ⟨p, k, rs, ws, rfl, hNet.same smB, hWF, by omega, .inl (smB _ _ hkB), hin, by omega, fun t5 y H5 ways sm5 nt ht5 hways lot => ?_⟩
    have mnb := lot_mn hWF hin lot
    generalize (ways.length : Int) = bs at ht5 mnb
    have smB5 := smB.trans sm5
    walk_at "s"
    refine ⟨r, k, rs, ws, rfl, hRow.same smB5, hWF, by omega, smB5 _ _ hkB, hin, fun t6 F6 C6 n6 qs ck H6 sm6 ht6 hC6 key6 fend => ?_⟩
    obtain ⟨mn6, vE, wE⟩ := fend.mn hWF hin
    have en6 := mn6.uniq mnb
    subst en6
    walk_at "s"
    refine ⟨_, _, .int n6, rfl, dt_int _, dt_int _, by show 0 < 1; omega, fun H7 sm7 => ?_⟩
    have smB7 := (smB5.trans sm6).trans sm7
    walk_at "s"
    · rename_i e
      cases e
    refine ⟨r, k, rs, ws, rfl, hRow.same smB7, hWF, by omega, smB7 _ _ hkB, hin, fun le H8 n8 qs8 sm8 nle fend8 hle => ?_⟩
    have en8 := (fend8.mn hWF hin).1.uniq mnb
    subst en8
    clear fend key6 hC6 ht6 mn6 vE wE
    have smB8 := smB7.trans sm8
    have hle' : H8 le = some (.lst ((Ear rs ws qs8).map V.int)) := hle
    walk_at "s"
    refine ⟨r, le, rs, Ear rs ws qs8, rfl, hRow.same smB8, hWF, by omega, hle, fun lf H9 sm9 nlf hlf => ?_⟩
    have smB9 := smB8.trans sm9
    have hs9 : H9 s = some (.lst [.int c1, .int c2, .int c3]) := sm9 _ _ (sm8 _ _ (sm7 _ _ (sm6 _ _ (sm5 _ _ hs4))))
    have hX9 := smB9 _ _ hX
    clear sm9 sm8 sm7 sm6 sm5 smB8 smB7 smB5 ht5 hle hle' lot hways hp4
    walk_at "s"
    rename_i FR hFR
    have fl_get : ∀ i : Nat, i < rs.length → atI ((flags rs (Ear rs ws qs8)).map V.bl) (i : Int) = some (.bl (flag (flags rs (Ear rs ws qs8)) (i : Int))) := fun i hi => at_flag (by omega) (by rw [flags_len]; omega)
    refine for_rangeQ (lo := 0) (n := ((xs.length : Int)).toNat) Q rfl (fun i σ H10 => ∃ v8 v9 : Option V, σ = [some (.ref a), some (.ref s), some (.ref r), some (.ref k), some (.ref p), some (.int n8), some (.ref lf), some (.ref FR), v8, v9, none, none, none, none, none, none, none, none, none, none] ∧ Same H9 H10 ∧ H10 FR = some (.lst ((((List.range i).filter fun (n : Nat) => flag (flags rs (Ear rs ws qs8)) (n : Int)).map fun (n : Nat) => (n : Int)).map V.int))) ?_ ?_ ?_
    · exact ⟨_, _, rfl, same_new hFR, upd_same⟩
    · intro N X i σ H10 hi hP hN
      obtain ⟨v8, v9, rfl, sm10, hF10⟩ := hP
      have hil : i < rs.length := by omega
      have smB10 := smB9.trans sm10
      have hk10 := smB10 _ _ hkB
      have hp10 := smB10 _ _ hp
      have hws : (ws.map V.int).length ≤ 4 := by
        rw [List.length_map]
        exact hl4
      simp only [Int.zero_add]
      walk_at "s"
      refine ⟨p, dx, _, rfl, hp10, rfl, ?_⟩
      walk_at "s"
      rename_i L1 hL1 L2 hL2
      have eL : ws.map V.int ++ [V.int (i : Int)] = (ws ++ [(i : Int)]).map V.int := by
        rw [List.map_append]
        rfl
      have hin2 : InR rs (ws ++ [(i : Int)]) := fun x hx => (List.mem_append.mp hx).elim (hin x) fun hx => by
        rw [List.mem_singleton] at hx
        omega
      have hl5 : (ws ++ [(i : Int)]).length ≤ 5 := by
        rw [List.length_append, List.length_singleton]
        omega
      have smL := (same_new (o := .lst [.int (i : Int)]) hL1).trans (same_new (o := .lst (ws.map V.int ++ [.int (i : Int)])) hL2)
      refine ⟨p, L2, rs, ws ++ [(i : Int)], rfl, hNet.same (smB10.trans smL), hWF, by omega, .inl (by rw [← eL]; exact upd_same), hin2, by omega, fun t7 y7 H11 ways7 sm11 nt7 ht7 hways7 lot7 => ?_⟩
      have mn7 := lot_mn hWF hin2 lot7
      generalize (ways7.length : Int) = m7 at ht7 mn7
      have sm1011 := smL.trans sm11
      have smB11 := smB10.trans sm1011
      have hk11 := smB11 _ _ hkB
      clear lot7 hways7
      walk_at "s"
      rename_i L3 hL3 L4 hL4
      have smM := (same_new (o := .lst [.int (i : Int)]) hL3).trans (same_new (o := .lst (ws.map V.int ++ [.int (i : Int)])) hL4)
      refine ⟨r, L4, rs, ws ++ [(i : Int)], rfl, hRow.same (smB11.trans smM), hWF, by omega, (by show _ = _; rw [← eL]; exact upd_same), hin2, fun t8 F8 C8 n9 qs9 ck9 H12 sm12 ht8 hC8 key8 fend9 => ?_⟩
      have en := (fend9.mn hWF hin2).1.uniq mn7
      subst en
      clear fend9 key8 hC8
      walk_at "s"
      refine ⟨_, _, .int n9, rfl, dt_int _, dt_int _, by show 0 < 1; omega, fun H13 sm13 => ?_⟩
      have sm1013 := ((sm1011.trans smM).trans sm12).trans sm13
      have smB13 := smB10.trans sm1013
      have hX13 := smB13 _ _ hX
      obtain ⟨rw0, tr, o, er, hat3, htr, ho⟩ := row_atB hRow' (n := (i : Int)) (by omega) (by omega)
      rw [Int.toNat_natCast] at er
      have htr13 := smB13 _ _ htr
      have hlf13 := sm1013 _ _ (sm10 _ _ hlf)
      have hfl := fl_get i hil
      have hF13 := sm1013 _ _ hF10
      have esz : szN rs i = rw0.sz := szN_at er
      have lo := mnb.mono (fun x hx => List.mem_append_left _ hx) mn7
      have hi2 := mnb.one hWF hin (x := (i : Int)) (by omega) (by omega) (fun y hy => (List.mem_append.mp hy).imp id fun h => List.mem_singleton.mp h) mn7
      rw [Int.toNat_natCast, esz] at hi2
      have fr := fend8.free hWF hin (x := (i : Int)) (by omega) (by omega) (fun y => (List.mem_append (s := ws) (t := [(i : Int)])).trans (by rw [List.mem_singleton])) mn7
      obtain ⟨fb, efb⟩ : ∃ fb, flag (flags rs (Ear rs ws qs8)) (i : Int) = fb := ⟨_, rfl⟩
      rw [efb] at hfl fr
      clear ht7 ht8 hk11 hk10 hp10 er
      have bl : ((List.range i).filter fun (n : Nat) => flag (flags rs (Ear rs ws qs8)) (n : Int)).length ≤ 13 := by
        have := List.length_filter_le (fun (n : Nat) => flag (flags rs (Ear rs ws qs8)) (n : Int)) (List.range i)
        rw [List.length_range] at this
        omega
      have rf : (List.range (i + 1)).filter (fun (n : Nat) => flag (flags rs (Ear rs ws qs8)) (n : Int)) = (List.range i).filter (fun (n : Nat) => flag (flags rs (Ear rs ws qs8)) (n : Int)) ++ (if fb = true then [i] else []) := by
        rw [List.range_succ, List.filter_append, List.filter_cons, efb]
        rfl
      walk_at "s"
      · rename_i e
        cases e
      · omega
      · omega
      · rename_i e
        rw [dec_eqI] at e
        exact absurd (congrArg V.bl (by rw [Bool.eq_iff_iff, decide_eq_true_eq]; exact fr)) e
      · rename_i e
        refine hN _ _ ⟨_, _, rfl, same_mut (sm10.trans sm1013) hFR, ?_⟩
        rw [upd_same, rf, if_pos e, List.map_append, List.map_append]
        rfl
      · rename_i e
        refine hN _ _ ⟨_, _, rfl, sm10.trans sm1013, ?_⟩
        rw [rf, if_neg e, List.append_nil]
        exact hF13
    · intro σ H10 hP
      obtain ⟨v8, v9, rfl, sm10, hF10⟩ := hP
      obtain ⟨frs, efr⟩ : ∃ frs, ((List.range ((xs.length : Int)).toNat).filter fun (n : Nat) => flag (flags rs (Ear rs ws qs8)) (n : Int)).map (fun (n : Nat) => (n : Int)) = frs := ⟨_, rfl⟩
      have hfrs : ∀ x ∈ frs, (0 ≤ x ∧ x < (rs.length : Int)) ∧ flag (flags rs (Ear rs ws qs8)) x = true := fun x hx => by
        rw [← efr] at hx
        obtain ⟨n, hn2, rfl⟩ := List.mem_map.mp hx
        rw [List.mem_filter, List.mem_range] at hn2
        exact ⟨by omega, hn2.2⟩
      have hfl : frs.length ≤ 13 := by
        rw [← efr, List.length_map]
        have := List.length_filter_le (fun (n : Nat) => flag (flags rs (Ear rs ws qs8)) (n : Int)) (List.range ((xs.length : Int)).toNat)
        rw [List.length_range] at this
        omega
      rw [efr] at hF10
      clear efr fl_get
      have hs10 := sm10 _ _ hs9
      have nsF : s ≠ FR := ne_of_none hs9 hFR
      have smB10 := smB9.trans sm10
      obtain ⟨HC, eHC⟩ : ∃ HC, LW.wo s H10 = HC := ⟨_, rfl⟩
      have sBC : Same HB HC := fun b o e => by
        rw [← eHC]
        exact (wo_ne (fun z => by rw [z, ← eHB, wo_self] at e; cases e)).trans (smB10 _ _ e)
      have smC10 : Same HC H10 := by
        rw [← eHC]
        exact wo_same
      have nCs : HC s = none := by
        rw [← eHC]
        exact wo_self
      have hFC : HC FR = some (.lst (frs.map V.int)) := by
        rw [← eHC]
        exact (wo_ne nsF.symm).trans hF10
      have hNetC := hNet.same sBC
      have hRowC := hRow.same sBC
      have hRowC' : Each (RowT HC) xs rs := hRow'.mono fun _ _ => RowT.same sBC
      have hkC := sBC _ _ hkB
      have hpC := sBC _ _ hp
      have hXC := sBC _ _ hX
      clear sm10 smB10 smB9 hlf nlf hs9 hX9 hFR nle smA hs3 hk hR hnet but4 np ndx npdx hs4 sm4 hF10 hNet hRow hkB hp hX hRow' hRL nt
      walk_at "s"
      rename_i E0 hE0
      have nCE : HC E0 = none := smC10.free hE0
      have nsE : s ≠ E0 := ne_of_none hs10 hE0
      refine for_rangeQ (lo := 0) (n := 2) Q rfl (fun i σ H11 => ∃ (v8 v9 v11 v12 v13 v14 : Option V) (es : List V), σ = [some (.ref a), some (.ref s), some (.ref r), some (.ref k), some (.ref p), some (.int n8), some (.ref lf), some (.ref FR), v8, v9, some (.ref E0), v11, v12, v13, v14, none, none, none, none, none] ∧ Same HC H11 ∧ Src H11 s ∧ H11 E0 = some (.lst es) ∧ es.length = i ∧ Ends rs ws s E0 H11 i es) ?_ ?_ ?_
      · exact ⟨_, _, _, _, _, _, [], rfl, smC10.trans (same_new hE0), ⟨_, _, _, hp_new hs10 hE0⟩, upd_same, rfl, [], .inl rfl⟩
      · intro N X i σ H11 hi hP hN
        obtain ⟨v8, v9, v11, v12, v13, v14, es, rfl, smC11, ⟨c1, c2, c3, hs11⟩, hE11, hesl, lead, hends⟩ := hP
        have hX11 := smC11 _ _ hXC
        simp only [Int.zero_add]
        walk_at "s"
        rename_i RL hRL
        have nsRL : s ≠ RL := ne_of_none hs11 hRL
        refine ⟨s, RL, (List.range ((xs.length : Int) - 0).toNat).map fun (n : Nat) => (0 : Int) + (n : Int), rfl, ⟨_, _, _, hp_new hs11 hRL⟩, nsRL, ?_, by rw [List.length_map, List.length_range]; omega, fun l H12 ms but12 nl hs12 hl hperm => ?_⟩
        · show upd _ _ _ _ = _
          rw [upd_same]
          unfold rgV
          rw [List.map_map]
          rfl
        have nsl : s ≠ l := ne_of_none (hp_new hs11 hRL) nl
        have but1112 : But s H11 H12 := (But.of (same_new hRL)).trans but12
        have nl11 : H11 l = none := (same_new hRL).free nl
        have hl' : H12 l = some (.lst (ms.map V.int)) := hl
        have hms : ∀ x ∈ ms, 0 ≤ x ∧ x < (rs.length : Int) := fun x hx => by
          obtain ⟨n, hn2, rfl⟩ := List.mem_map.mp (hperm.mem_iff.mp hx)
          rw [List.mem_range] at hn2
          omega
        obtain ⟨c1, c2, c3, hs12⟩ := hs12
        walk_at "s"
        rename_i O0 hO0
        have ec : cutV (ms.map V.int) none (some 6) = (ms.take 6).map V.int := by
          rw [show (6 : Int) = ((6 : Nat) : Int) from rfl, cut_take, List.map_take]
        rw [ec] at *
        have nsO : s ≠ O0 := ne_of_none hs12 hO0
        have butO : But s H11 (upd H12 O0 (.lst ((ms.take 6).map V.int))) := but1112.trans' (same_new hO0)
        have hsO : upd H12 O0 (.lst ((ms.take 6).map V.int)) s = some (.lst [.int c1, .int c2, .int c3]) := hp_new hs12 hO0
        have hOO : upd H12 O0 (.lst ((ms.take 6).map V.int)) O0 = some (.lst ((ms.take 6).map V.int)) := upd_same
        have nO11 : H11 O0 = none := but1112.free nsO.symm hO0
        generalize upd H12 O0 (.lst ((ms.take 6).map V.int)) = H13 at butO hsO hOO ⊢
        refine go_cutM (fun σ' H' => ∃ (O : Addr) (os : List Int), σ' = [some (.ref a), some (.ref s), some (.ref r), some (.ref k), some (.ref p), some (.int n8), some (.ref lf), some (.ref FR), v8, v9, some (.ref E0), some (.int (i : Int)), some (.ref O), v13, v14, none, none, none, none, none] ∧ But s H11 H' ∧ H' s = some (.lst [.int c1, .int c2, .int c3]) ∧ H' O = some (.lst (os.map V.int)) ∧ H11 O = none ∧ InR rs os ∧ os.length ≤ 6 ∧ (i = 0 ∨ ∀ x, x ∈ os ↔ x ∈ lead)) ?_ fun σ' H' hM => ?_
        · have hE13 := butO _ _ nsE.symm hE11
          walk_at "s"
          · rename_i e
            rcases hends with h0 | ⟨t0, ol, num, rest, ees, ht0, hol, nos, noE, hll, hlin, hlmn, hrest⟩
            · omega
            have hat0 : atI es 0 = some (.ref t0) := by
              rw [ees]
              exact atI_nat (j := 0) rfl
            have nt0 : t0 ≠ s := ne_of ht0 hs11 (by intro z; cases z)
            have ht13 := butO _ _ nt0 ht0
            have hol13 := butO _ _ nos hol
            refine ⟨_, _, _, _, rfl, rfl, SqL.of hE13, hat0, ?_⟩
            walk_at "s"
            rename_i O1 hO1
            have nO1 : O1 ≠ s := (ne_of_none hsO hO1).symm
            exact ⟨O1, lead.reverse, rfl, butO.trans' (same_new hO1), hp_new hsO hO1, by rw [upd_same, List.map_reverse], butO.free nO1 hO1, fun x hx => hlin x (List.mem_reverse.mp hx), by rw [List.length_reverse]; exact hll, .inr fun x => List.mem_reverse⟩
          · rename_i e
            exact ⟨O0, ms.take 6, rfl, butO, hsO, hOO, nO11, fun x hx => hms x (List.mem_of_mem_take hx), by rw [List.length_take]; omega, .inl (by omega)⟩
        clear hsO hOO nO11 butO ec hs12 hl hl' nl11 nl but1112 but12 hms hperm
        obtain ⟨O, os, rfl, butO, hsO, hOO, nO11, hos, hol6, hlead⟩ := hM
        have smC13 : Same HC H' := (Same.but smC11 butO).same nCs
        have hk13 := smC13 _ _ hkC
        walk_at "s"
        rename_i L hL
        have hE13 := butO _ _ nsE.symm hE11
        have smL0 : Same H' (upd H' L (.lst (ws.map V.int))) := same_new hL
        refine for_listQ (xs := os.map V.int) Q rfl (fun j σ H14 => ∃ (v8 v9 : Option V) (num : Int), σ = [some (.ref a), some (.ref s), some (.ref r), some (.ref k), some (.ref p), some (.int n8), some (.ref lf), some (.ref FR), v8, v9, some (.ref E0), some (.int (i : Int)), some (.ref O), some (.ref L), some (.int num), none, none, none, none, none] ∧ Same H' H14 ∧ H14 L = some (.lst ((ws ++ os.take j).map V.int)) ∧ Mn rs (ws ++ os.take j) num) ?_ ?_ ?_ ?_
        · exact ⟨_, _, n8, rfl, smL0, by rw [List.take_zero, List.append_nil]; exact upd_same, by rw [List.take_zero, List.append_nil]; exact mnb⟩
        · intro j σ H14 hj hP
          obtain ⟨v8, v9, num, rfl, sm14, _⟩ := hP
          exact SqL.of (sm14 _ _ hOO)
        · intro N2 X2 j x σ H14 hj hP hN2
          obtain ⟨v8, v9, num, rfl, sm14, hL14, mnj⟩ := hP
          obtain ⟨z, rfl, hz⟩ := map_get hj
          obtain ⟨z0, z1⟩ := hos z (List.mem_of_getElem? hz)
          have hjl := (List.getElem?_eq_some_iff.mp hz).1
          have smC14 := smC13.trans sm14
          have hp14 := smC14 _ _ hpC
          have hlen : ((ws ++ os.take j).map V.int).length ≤ 10 := by
            rw [List.length_map, List.length_append, List.length_take]
            omega
          have eL : (ws ++ os.take j).map V.int ++ [V.int z] = (ws ++ os.take (j + 1)).map V.int := by
            rw [take_snoc hz, ← List.append_assoc, List.map_append (l₁ := ws ++ os.take j)]
            rfl
          have hinj : InR rs (ws ++ os.take j) := fun x hx => (List.mem_append.mp hx).elim (hin x) fun hx => hos x (List.mem_of_mem_take hx)
          have hin2 : InR rs (ws ++ os.take (j + 1)) := fun x hx => (List.mem_append.mp hx).elim (hin x) fun hx => hos x (List.mem_of_mem_take hx)
          have hl2 : (ws ++ os.take (j + 1)).length ≤ 10 := by
            rw [List.length_append, List.length_take]
            omega
          walk_at "s"
          refine ⟨p, dx, _, rfl, hp14, rfl, ?_⟩
          walk_at "s"
          rename_i L1 hL1 L2 hL2
          rw [eL]
          have smL := (same_new (o := .lst [.int z]) hL1).trans (same_new (o := .lst ((ws ++ os.take (j + 1)).map V.int)) hL2)
          refine ⟨p, L2, rs, ws ++ os.take (j + 1), rfl, hNetC.same (smC14.trans smL), hWF, by omega, .inl upd_same, hin2, by omega, fun t7 y7 H15 ways7 sm15 nt7 ht7 hways7 lot7 => ?_⟩
          have mn7 := lot_mn hWF hin2 lot7
          generalize (ways7.length : Int) = m7 at ht7 mn7
          have sm1415 := smL.trans sm15
          have smC15 := smC14.trans sm1415
          have hX15 := smC15 _ _ hXC
          have hF15 := smC15 _ _ hFC
          have hL15 := sm1415 _ _ hL14
          obtain ⟨rw0, tr, o, er, hat3, htr, ho⟩ := row_atB hRowC' z0 z1
          have htr15 := smC15 _ _ htr
          have tk : ∀ y, y ∈ ws ++ os.take (j + 1) ↔ y ∈ ws ++ os.take j ∨ y = z := fun y => by
            rw [take_snoc hz, ← List.append_assoc, List.mem_append (s := ws ++ os.take j), List.mem_singleton]
          have esz : szN rs z.toNat = rw0.sz := by
            unfold szN
            rw [er]
          have lo := mnj.mono (fun x hx => (tk x).mpr (.inl hx)) mn7
          have hi2 := mnj.one hWF hinj z0 z1 (fun y hy => (tk y).mp hy) mn7
          rw [esz] at hi2
          have st : z ∈ frs → m7 = num := fun hzf => fend8.stay hWF hin hinj (fun x hx => List.mem_append_left _ hx) (fr := [z]) (fun x hx => by rw [List.mem_singleton] at hx; rw [hx]; exact hfrs z hzf) (fun y => (tk y).trans (by rw [List.mem_singleton])) mnj mn7
          clear lot7 hways7
          walk_at "s"
          · omega
          · omega
          refine ⟨flat_ints, inV (V.int z) (frs.map V.int), rfl, ?_⟩
          rw [inV_int]
          by_cases ez : z ∈ frs
          · rw [decide_eq_true ez]
            refine iteT ?_
            walk_at "s"
            · rename_i e
              exact absurd (st ez) e
            refine hN2 _ _ ⟨_, _, m7, rfl, same_mut (sm14.trans sm1415) hL, ?_, mn7⟩
            rw [upd_same, eL]
          · rw [decide_eq_false ez]
            refine iteF ?_
            walk_at "s"
            refine hN2 _ _ ⟨_, _, m7, rfl, same_mut (sm14.trans sm1415) hL, ?_, mn7⟩
            rw [upd_same, eL]
        · intro σ H14 hP
          obtain ⟨v8, v9, num, rfl, sm14, hL14, mnj⟩ := hP
          rw [List.length_map, List.take_length] at hL14 mnj
          have smC14 := smC13.trans sm14
          have hp14 := smC14 _ _ hpC
          have hF14 := smC14 _ _ hFC
          have hlen : ((ws ++ os).map V.int).length ≤ 10 := by
            rw [List.length_map, List.length_append]
            omega
          have hfl2 : (frs.map V.int).length ≤ 13 := by
            rw [List.length_map]
            exact hfl
          walk_at "s"
          refine ⟨p, dx, _, rfl, hp14, rfl, ?_⟩
          walk_at "s"
          rename_i L5 hL5
          rw [← List.map_append]
          have hinos : InR rs (ws ++ os) := fun x hx => (List.mem_append.mp hx).elim (hin x) (hos x)
          have hin3 : InR rs (ws ++ os ++ frs) := fun x hx => (List.mem_append.mp hx).elim (hinos x) fun hx => (hfrs x hx).1
          have smL : Same H14 (upd H14 L5 (.lst ((ws ++ os ++ frs).map V.int))) := same_new hL5
          refine ⟨p, L5, rs, ws ++ os ++ frs, rfl, hNetC.same (smC14.trans smL), hWF, by omega, .inl upd_same, hin3, by rw [List.length_append, List.length_append]; omega, fun t7 y7 H15 ways7 sm15 nt7 ht7 hways7 lot7 => ?_⟩
          have mn7 := lot_mn hWF hin3 lot7
          generalize (ways7.length : Int) = m7 at ht7 mn7
          have st : m7 = num := fend8.stay hWF hin (es := ws ++ os) hinos (fun x hx => List.mem_append_left _ hx) (fr := frs) hfrs (fun y => List.mem_append) mnj mn7
          subst st
          have sm15' := (sm14.trans smL).trans sm15
          have hE15 := sm15' _ _ hE13
          have hil : es.length ≤ 2 := by omega
          clear lot7 hways7
          walk_at "s"
          · rename_i e
            exact absurd rfl e
          rename_i t8 ht8
          have smT : Same H' (upd H15 t8 (.tup [.ref O, .int m7])) := sm15'.trans (same_new ht8)
          have nt8E : t8 ≠ E0 := (ne_of_none hE15 ht8).symm
          have nOs : O ≠ s := (ne_of_none hs11 nO11).symm
          have nOE : O ≠ E0 := (ne_of_none hE11 nO11).symm
          have ht8' : upd (upd H15 t8 (.tup [.ref O, .int m7])) E0 (.lst (es ++ [.ref t8])) t8 = some (.tup [.ref O, .int m7]) := (upd_ne nt8E).trans upd_same
          have keep : ∀ {b : Addr} {o : HO}, b ≠ s → b ≠ E0 → H11 b = some o → upd (upd H15 t8 (.tup [.ref O, .int m7])) E0 (.lst (es ++ [.ref t8])) b = some o := fun b1 b2 e => (upd_ne b2).trans (smT _ _ (butO _ _ b1 e))
          refine hN _ _ ⟨_, _, _, _, _, _, es ++ [.ref t8], rfl, same_mut (smC13.trans smT) nCE, ⟨c1, c2, c3, (upd_ne nsE).trans (smT _ _ hsO)⟩, upd_same, by rw [List.length_append, List.length_singleton, hesl], ?_⟩
          rcases hends with h0 | ⟨t0, ol, num0, rest, ees, ht0, hol, nos, noE, hll, hlin, hlmn, hrest⟩
          · have : es = [] := List.length_eq_zero_iff.mp (by omega)
            rw [this] at ht8' ⊢
            exact ⟨os, .inr ⟨t8, O, m7, [], rfl, ht8', (upd_ne nOE).trans (smT _ _ hOO), nOs, nOE, hol6, hos, mnj, fun v hv => by cases hv⟩⟩
          · have en : m7 = num0 := by
              rcases hlead with h | h
              · rw [ees] at hesl
                rw [List.length_cons] at hesl
                omega
              · exact mnj.mem (fun x => by rw [List.mem_append, List.mem_append, h x]) hlmn
            subst en
            refine ⟨lead, .inr ⟨t0, ol, m7, rest ++ [.ref t8], by rw [ees]; rfl, keep (ne_of ht0 hs11 (by intro z; cases z)) (ne_of ht0 hE11 (by intro z; cases z)) ht0, keep nos noE hol, nos, noE, hll, hlin, hlmn, fun v hv => ?_⟩⟩
            rcases List.mem_append.mp hv with hv | hv
            · obtain ⟨t, l, ev, ht⟩ := hrest v hv
              exact ⟨t, l, ev, keep (ne_of ht hs11 (by intro z; cases z)) (ne_of ht hE11 (by intro z; cases z)) ht⟩
            · rw [List.mem_singleton] at hv
              exact ⟨t8, O, hv, ht8'⟩
      · intro σ H11 hP
        obtain ⟨v8, v9, v11, v12, v13, v14, es, rfl, smC11, ⟨c1, c2, c3, hs11⟩, hE11, hesl, lead, hends⟩ := hP
        obtain ⟨t0, ol, num, rest, ees, ht0, hol, nos, noE, hll, hlin, hlmn, hrest⟩ := hends.resolve_left (by omega)
        obtain ⟨v1, er1⟩ : ∃ v1, rest = [v1] := by
          rw [ees, List.length_cons] at hesl
          match rest, hesl with
          | [v1], _ => exact ⟨v1, rfl⟩
        obtain ⟨t1, l1, ev1, ht1⟩ := hrest v1 (by rw [er1]; simp)
        have hat0 : atI es 0 = some (.ref t0) := by
          rw [ees]
          exact atI_nat (j := 0) rfl
        have hat1 : atI es 1 = some (.ref t1) := by
          rw [ees, er1, ev1]
          exact atI_nat (j := 1) rfl
        have hk11 := smC11 _ _ hkC
        have hlen : (lead.map V.int).length ≤ 6 := by
          rw [List.length_map]
          exact hll
        have hws : (ws.map V.int).length ≤ 4 := by
          rw [List.length_map]
          exact hl4
        walk_at "s"
        · rename_i e
          exact absurd rfl e
        rename_i e L6 hL6
        rw [← List.map_append]
        have hinl : InR rs (ws ++ lead) := fun x hx => (List.mem_append.mp hx).elim (hin x) (hlin x)
        have smL : Same H11 (upd H11 L6 (.lst ((ws ++ lead).map V.int))) := same_new hL6
        refine ⟨r, L6, rs, ws ++ lead, rfl, hRowC.same (smC11.trans smL), hWF, by omega, upd_same, hinl, fun t6 F6 C6 n6 qs ck H12 sm12 ht6 hC6 key6 fend6 => ?_⟩
        have en := (fend6.mn hWF hinl).1.uniq hlmn
        subst en
        have smC12 := smC11.trans (smL.trans sm12)
        have hs12 := sm12 _ _ (smL _ _ hs11)
        have hk12 := smC12 _ _ hkC
        have hX12 := smC12 _ _ hXC
        clear fend6 key6 hC6 hrest ht1 hat1 hat0 hol ht0 hk11 hlen
        walk_at "s"
        · rename_i e
          exact absurd rfl e
        rename_i e2 D hD
        have nsD : s ≠ D := ne_of_none hs12 hD
        have nCD : HC D = none := smC12.free hD
        refine lc_range (lo := 0) (n := 3) (fun j H13 => ∃ (a b c : Int) (fs : List Int), But s H12 H13 ∧ H13 s = some (.lst [.int a, .int b, .int c]) ∧ H13 D = some (.lst (fs.map V.int)) ∧ fs.length = j ∧ InR rs fs) ?_ ?_ ?_
        · exact ⟨_, _, _, [], .of (same_new hD), hp_new hs12 hD, upd_same, rfl, fun x hx => by cases hx⟩
        · intro j H13 hj hP
          obtain ⟨d1, d2, d3, fs, but13, hs13, hD13, hfs, hfr⟩ := hP
          have hX13 := ((Same.but smC12 but13).same nCs) _ _ hXC
          have hxl0 : (0 : Int) < xs.length := by omega
          have hxl1 : (xs.length : Int) < 1073741824 := by omega
          walk_at "s"
          rename_i k1 a1 b1 f1 k10 k11
          refine ⟨_, (upd_ne nsD.symm).trans hD13, sz_less (by rw [List.length_map]; omega), a1, b1, f1, fs ++ [k1], but_mut (but13.trans But.upd) hD, (upd_ne nsD).trans upd_same, ?_, by rw [List.length_append, List.length_singleton, hfs], fun x hx => ?_⟩
          · rw [upd_same, List.map_append]
            rfl
          · rcases List.mem_append.mp hx with hx | hx
            · exact hfr x hx
            · rw [List.mem_singleton] at hx
              omega
        · intro H13 hP
          obtain ⟨d1, d2, d3, fs, but13, hs13, hD13, hfs, hfr⟩ := hP
          have smC13 := (Same.but smC12 but13).same nCs
          have hk13 := smC13 _ _ hkC
          have hfl2 : (fs.map V.int).length ≤ 3 := by
            rw [List.length_map]
            omega
          walk_at "s"
          rename_i F1 hF1 D2 hD2
          rw [← List.map_append] at hD2 ⊢
          obtain ⟨as, eas⟩ : ∃ as, ws ++ fs = as := ⟨_, rfl⟩
          have hina : InR rs as := fun x hx => by
            rw [← eas] at hx
            exact (List.mem_append.mp hx).elim (hin x) (hfr x)
          have hal : as.length ≤ 7 := by
            rw [← eas, List.length_append]
            omega
          rw [eas] at hD2 ⊢
          have smF : Same H13 (upd H13 F1 (.lst (as.map V.int))) := same_new hF1
          have hF11 : upd H13 F1 (.lst (as.map V.int)) F1 = some (.lst (as.map V.int)) := upd_same
          have nF1s : F1 ≠ s := (ne_of_none hs13 hF1).symm
          generalize upd H13 F1 (.lst (as.map V.int)) = H14 at smF hF11 hD2 ⊢
          have smC14 := smC13.trans smF
          have hs14 := smF _ _ hs13
          have nsD2 : s ≠ D2 := ne_of_none hs14 hD2
          clear hF1 smF
          refine lc_range (lo := 0) (n := 3) (fun j H15 => ∃ (a b c : Int) (fs : List Int), But s H14 H15 ∧ H15 s = some (.lst [.int a, .int b, .int c]) ∧ H15 D2 = some (.lst (fs.map V.int)) ∧ fs.length = j ∧ InR rs fs) ?_ ?_ ?_
          · exact ⟨_, _, _, [], .of (same_new hD2), hp_new hs14 hD2, upd_same, rfl, fun x hx => by cases hx⟩
          · intro j H15 hj hP
            obtain ⟨d1, d2, d3, fs, but15, hs15, hD15, hfs, hfr⟩ := hP
            have hX15 := ((Same.but smC14 but15).same nCs) _ _ hXC
            have hxl0 : (0 : Int) < xs.length := by omega
            have hxl1 : (xs.length : Int) < 1073741824 := by omega
            walk_at "s"
            rename_i k1 a1 b1 f1 k10 k11
            refine ⟨_, (upd_ne nsD2.symm).trans hD15, sz_less (by rw [List.length_map]; omega), a1, b1, f1, fs ++ [k1], but_mut (but15.trans But.upd) hD2, (upd_ne nsD2).trans upd_same, ?_, by rw [List.length_append, List.length_singleton, hfs], fun x hx => ?_⟩
            · rw [upd_same, List.map_append]
              rfl
            · rcases List.mem_append.mp hx with hx | hx
              · exact hfr x hx
              · rw [List.mem_singleton] at hx
                omega
          · intro H15 hP
            obtain ⟨d1', d2', d3', gs, but15, hs15, hD15, hgs, hgr⟩ := hP
            have smC15 := (Same.but smC14 but15).same nCs
            have hk15 := smC15 _ _ hkC
            have hF15 := but15 _ _ nF1s hF11
            clear hs15 hs13 but15 hD2 hD13 but13 smC13 hk13
            walk_at "s"
            rename_i S1 hS1
            have ec : cutV (ws.map V.int) none (some 1) = (ws.take 1).map V.int := by
              rw [show (1 : Int) = ((1 : Nat) : Int) from rfl, cut_take, List.map_take]
            simp only [ec]
            have z1 : (gs.map V.int).length ≤ 3 := by
              rw [List.length_map]
              omega
            have z2 : ((ws.take 1).map V.int).length ≤ 4 := by
              rw [List.length_map, List.length_take]
              omega
            have hD15' := hp_new (x := .lst ((ws.take 1).map V.int)) hD15 hS1
            walk_at "s"
            rename_i S2 hS2 D3 hD3
            rw [← List.map_append] at hD3 ⊢
            obtain ⟨bs2, ebs⟩ : ∃ bs2, gs ++ ws.take 1 = bs2 := ⟨_, rfl⟩
            have hinb : InR rs bs2 := fun x hx => by
              rw [← ebs] at hx
              exact (List.mem_append.mp hx).elim (hgr x) fun hx => hin x (List.mem_of_mem_take hx)
            have hbl : bs2.length ≤ 4 := by
              rw [← ebs, List.length_append, List.length_take]
              omega
            rw [ebs] at hD3 ⊢
            have smG : Same H15 (upd (upd H15 S1 (.lst ((ws.take 1).map V.int))) S2 (.lst (bs2.map V.int))) := (same_new hS1).trans (same_new hS2)
            have hS21 : upd (upd H15 S1 (.lst ((ws.take 1).map V.int))) S2 (.lst (bs2.map V.int)) S2 = some (.lst (bs2.map V.int)) := upd_same
            generalize upd (upd H15 S1 (.lst ((ws.take 1).map V.int))) S2 (.lst (bs2.map V.int)) = H16 at smG hS21 hD3 ⊢
            have smC16 := smC15.trans smG
            have hF16 := smG _ _ hF15
            clear hS1 hS2 smG hD15' hD15 ec z1 z2
            refine lc_list (xs := as.map V.int) (fun j H17 => Same H16 H17 ∧ H17 D3 = some (.lst (((as.take j).filter fun x => decide (x ∈ bs2)).map V.int))) ?_ ?_ ?_ ?_
            · exact ⟨same_new hD3, upd_same⟩
            · intro j H17 hj hP
              exact SqL.of (hP.1 _ _ hF16)
            · intro j x H17 hj hP
              obtain ⟨sm17, hD17⟩ := hP
              obtain ⟨z, rfl, hz⟩ := map_get hj
              have hS17 := sm17 _ _ hS21
              have bl : ((as.take j).filter fun x => decide (x ∈ bs2)).length ≤ 7 := by
                have := List.length_filter_le (fun x => decide (x ∈ bs2)) (as.take j)
                rw [List.length_take] at this
                omega
              walk_at "s"
              refine ⟨flat_ints, inV (V.int z) (bs2.map V.int), rfl, ?_⟩
              rw [inV_int]
              by_cases ez : z ∈ bs2
              · rw [decide_eq_true ez]
                refine iteT ?_
                walk_at "s"
                refine ⟨_, hD17, sz_less (by rw [List.length_map]; omega), same_mut sm17 hD3, ?_⟩
                rw [upd_same, filter_snoc hz, if_pos (decide_eq_true ez), List.map_append]
                rfl
              · rw [decide_eq_false ez]
                refine iteF ⟨sm17, ?_⟩
                rw [hD17, filter_snoc hz, if_neg (by rw [decide_eq_true_eq]; exact ez), List.append_nil]
            · intro H17 hP
              obtain ⟨sm17, hD17⟩ := hP
              rw [List.length_map, List.take_length] at hD17
              obtain ⟨cms, ecm⟩ : ∃ cms, as.filter (fun x => decide (x ∈ bs2)) = cms := ⟨_, rfl⟩
              have hcm : ∀ x, x ∈ cms ↔ x ∈ as ∧ x ∈ bs2 := fun x => by
                rw [← ecm, List.mem_filter, decide_eq_true_eq]
              have hcl : cms.length ≤ 7 := by
                rw [← ecm]
                exact Nat.le_trans (List.length_filter_le _ _) hal
              rw [ecm] at hD17
              have smC17 := smC16.trans sm17
              have hF17 := sm17 _ _ hF16
              have hS17 := sm17 _ _ hS21
              have y1 : (as.map V.int).length ≤ 7 := by
                rw [List.length_map]
                exact hal
              have y2 : (bs2.map V.int).length ≤ 4 := by
                rw [List.length_map]
                exact hbl
              walk_at "s"
              rename_i F3 hF3 NL hNL D4 hD4
              rw [← List.map_append] at hNL hD4 ⊢
              have smH := (same_new (o := .lst ((as ++ bs2).map V.int)) hF3).trans (same_new (o := .lst [.ref F1, .ref S2, .ref F3, .ref D3]) hNL)
              have hF31 : upd (upd H17 F3 (.lst ((as ++ bs2).map V.int))) NL (.lst [.ref F1, .ref S2, .ref F3, .ref D3]) F3 = some (.lst ((as ++ bs2).map V.int)) := hp_new upd_same hNL
              have hNL1 : upd (upd H17 F3 (.lst ((as ++ bs2).map V.int))) NL (.lst [.ref F1, .ref S2, .ref F3, .ref D3]) NL = some (.lst [.ref F1, .ref S2, .ref F3, .ref D3]) := upd_same
              have hD31 := smH _ _ hD17
              have hS31 := smH _ _ hS17
              have hF11' := smH _ _ hF17
              have smC18 := smC17.trans smH
              have hina3 : InR rs (as ++ bs2) := fun x hx => (List.mem_append.mp hx).elim (hina x) (hinb x)
              have hinc : InR rs cms := fun x hx => hina x ((hcm x).mp hx).1
              generalize upd (upd H17 F3 (.lst ((as ++ bs2).map V.int))) NL (.lst [.ref F1, .ref S2, .ref F3, .ref D3]) = H18 at hF31 hNL1 hD31 hS31 hF11' smC18 hD4 ⊢
              clear smH hF3 hNL hD17 hS17 hF17 smC17 sm17 hS21 hF16 smC16 hD3
              refine lc_list (xs := [.ref F1, .ref S2, .ref F3, .ref D3]) (fun j H19 => Same H18 H19 ∧ ∃ nums : List Int, H19 D4 = some (.lst (nums.map V.int)) ∧ nums.length = j ∧ ∀ (i : Nat) (n : Int) (l : List Int), nums[i]? = some n → [as, bs2, as ++ bs2, cms][i]? = some l → Mn rs l n) ?_ ?_ ?_ ?_
              · exact ⟨same_new hD4, [], upd_same, rfl, fun i n l h => by simp at h⟩
              · intro j H19 hj hP
                exact SqL.of (hP.1 _ _ hNL1)
              · intro j x H19 hj hP
                obtain ⟨sm19, nums, hD19, hnl, hmn⟩ := hP
                obtain ⟨A, l, rfl, hAl, hA, hinA, hlA⟩ : ∃ (A : Addr) (l : List Int), x = .ref A ∧ [as, bs2, as ++ bs2, cms][j]? = some l ∧ H18 A = some (.lst (l.map V.int)) ∧ InR rs l ∧ l.length ≤ 20 := by
                  match j, hj with
                  | 0, hj =>
                    injection hj with hj
                    exact ⟨F1, as, hj.symm, rfl, hF11', hina, by omega⟩
                  | 1, hj =>
                    injection hj with hj
                    exact ⟨S2, bs2, hj.symm, rfl, hS31, hinb, by omega⟩
                  | 2, hj =>
                    injection hj with hj
                    exact ⟨F3, as ++ bs2, hj.symm, rfl, hF31, hina3, by rw [List.length_append]; omega⟩
                  | 3, hj =>
                    injection hj with hj
                    exact ⟨D3, cms, hj.symm, rfl, hD31, hinc, by omega⟩
                have hA19 := sm19 _ _ hA
                have smC19 := smC18.trans sm19
                have hp19 := smC19 _ _ hpC
                walk_at "s"
                refine ⟨p, dx, _, rfl, hp19, rfl, ?_⟩
                walk_at "s"
                refine ⟨p, A, rs, l, rfl, hNetC.same smC19, hWF, by omega, .inl hA19, hinA, by omega, fun t7 y7 H20 ways7 sm20 nt7 ht7 hways7 lot7 => ?_⟩
                have mn7 := lot_mn hWF hinA lot7
                generalize (ways7.length : Int) = m7 at ht7 mn7
                have hD20 := sm20 _ _ hD19
                clear lot7 hways7
                walk_at "s"
                refine ⟨_, hD20, sz_less (by rw [List.length_map]; have := (List.getElem?_eq_some_iff.mp hj).1; simp at this; omega), same_mut (sm19.trans sm20) hD4, nums ++ [m7], ?_, by rw [List.length_append, List.length_singleton, hnl], fun i n l' e1 e2 => ?_⟩
                · rw [upd_same, List.map_append]
                  rfl
                · by_cases hi : i < nums.length
                  · rw [List.getElem?_append_left hi] at e1
                    exact hmn i n l' e1 e2
                  · have hl := (List.getElem?_eq_some_iff.mp e1).1
                    rw [List.length_append, List.length_singleton] at hl
                    have ei : i = nums.length := by omega
                    subst ei
                    rw [List.getElem?_concat_length] at e1
                    injection e1 with e1
                    subst e1
                    rw [hnl, hAl] at e2
                    injection e2 with e2
                    rw [← e2]
                    exact mn7
              · intro H19 hP
                obtain ⟨sm19, nums, hD19, hnl, hmn⟩ := hP
                obtain ⟨n0, n1, n2, n3, rfl⟩ : ∃ n0 n1 n2 n3 : Int, nums = [n0, n1, n2, n3] := by
                  match nums, hnl with
                  | [n0, n1, n2, n3], _ => exact ⟨n0, n1, n2, n3, rfl⟩
                have m0 := hmn 0 n0 as rfl rfl
                have m1 := hmn 1 n1 bs2 rfl rfl
                have m2 := hmn 2 n2 (as ++ bs2) rfl rfl
                have m3 := hmn 3 n3 cms rfl rfl
                have tot := Mn.sub hWF (as := as) (bs := bs2) (us := as ++ bs2) (is := cms) (fun x hx => hx.elim (hina x) (hinb x)) (fun x hx => List.mem_append.mp hx) (fun x hx => (hcm x).mp hx) m0 m1 m2 m3
                have hat0 : atI ([n0, n1, n2, n3].map V.int) 0 = some (.int n0) := atI_nat (j := 0) rfl
                have hat1 : atI ([n0, n1, n2, n3].map V.int) 1 = some (.int n1) := atI_nat (j := 1) rfl
                have hat2 : atI ([n0, n1, n2, n3].map V.int) 2 = some (.int n2) := atI_nat (j := 2) rfl
                have hat3 : atI ([n0, n1, n2, n3].map V.int) 3 = some (.int n3) := atI_nat (j := 3) rfl
                have smC19 := smC18.trans sm19
                have hF19 := sm19 _ _ hF11'
                have hS19 := sm19 _ _ hS31
                walk_at "s"
                · rename_i e L9 hL9
                  rw [← List.map_append]
                  have smL9 : Same H19 (upd H19 L9 (.lst ((as ++ bs2).map V.int))) := same_new hL9
                  refine ⟨r, L9, rs, as ++ bs2, rfl, hRowC.same (smC19.trans smL9), hWF, by omega, upd_same, hina3, fun t9 F9 C9 n9 qs9 ck9 H20 sm20 ht9 hC9 key9 fend9 => ?_⟩
                  have en := (fend9.mn hWF hina3).1.uniq m2
                  subst en
                  walk_at "s"
                  rw [decide_eq_true rfl]
                  exact q _
                · rename_i e
                  exact absurd tot e
end
end K15W
set_option Elab.async false
set_option linter.all false
set_option maxRecDepth 100000
set_option maxHeartbeats 4000000
namespace K15W
open PySem PySem.Spec PyProof.Rows L2 TL LW
def top_mk {w : World} {K : PySem.W.Frag} {h : Heap} {mg : Str → Option Value} (X : K.In h) (G : h.Ns mainGlobals mg)
    {C_Net : Addr}
    {C_Split : Addr}
    {f0 : Addr} {od0 an0 : Option Addr} {sl0 : Array (Option Value)} {oc0 kV0 dc0 pm0 cd0 ct0 : Value}
    {f1 : Addr} {od1 an1 : Option Addr} {sl1 : Array (Option Value)} {oc1 kV1 dc1 pm1 cd1 ct1 : Value}
    {f2 : Addr} {od2 an2 : Option Addr} {sl2 : Array (Option Value)} {oc2 kV2 dc2 pm2 cd2 ct2 : Value}
    {f3 : Addr} {od3 an3 : Option Addr} {sl3 : Array (Option Value)} {oc3 kV3 dc3 pm3 cd3 ct3 : Value}
    {f4 : Addr} {od4 an4 : Option Addr} {sl4 : Array (Option Value)} {oc4 kV4 dc4 pm4 cd4 ct4 : Value}
    {f5 : Addr} {od5 an5 : Option Addr} {sl5 : Array (Option Value)} {oc5 kV5 dc5 pm5 cd5 ct5 : Value}
    {f6 : Addr} {od6 an6 : Option Addr} {sl6 : Array (Option Value)} {oc6 kV6 dc6 pm6 cd6 ct6 : Value}
    {f7 : Addr} {od7 an7 : Option Addr} {sl7 : Array (Option Value)} {oc7 kV7 dc7 pm7 cd7 ct7 : Value}
    {f8 : Addr} {od8 an8 : Option Addr} {sl8 : Array (Option Value)} {oc8 kV8 dc8 pm8 cd8 ct8 : Value}
    {f9 : Addr} {od9 an9 : Option Addr} {sl9 : Array (Option Value)} {oc9 kV9 dc9 pm9 cd9 ct9 : Value}
    {f10 : Addr} {od10 an10 : Option Addr} {sl10 : Array (Option Value)} {oc10 kV10 dc10 pm10 cd10 ct10 : Value}
    {f11 : Addr} {od11 an11 : Option Addr} {sl11 : Array (Option Value)} {oc11 kV11 dc11 pm11 cd11 ct11 : Value}
    {f12 : Addr} {od12 an12 : Option Addr} {sl12 : Array (Option Value)} {oc12 kV12 dc12 pm12 cd12 ct12 : Value}
    {f13 : Addr} {od13 an13 : Option Addr} {sl13 : Array (Option Value)} {oc13 kV13 dc13 pm13 cd13 ct13 : Value}
    {f14 : Addr} {od14 an14 : Option Addr} {sl14 : Array (Option Value)} {oc14 kV14 dc14 pm14 cd14 ct14 : Value}
    {f15 : Addr} {od15 an15 : Option Addr} {sl15 : Array (Option Value)} {oc15 kV15 dc15 pm15 cd15 ct15 : Value}
    {f16 : Addr} {od16 an16 : Option Addr} {sl16 : Array (Option Value)} {oc16 kV16 dc16 pm16 cd16 ct16 : Value}
    {f17 : Addr} {od17 an17 : Option Addr} {sl17 : Array (Option Value)} {oc17 kV17 dc17 pm17 cd17 ct17 : Value}
    {f18 : Addr} {od18 an18 : Option Addr} {sl18 : Array (Option Value)} {oc18 kV18 dc18 pm18 cd18 ct18 : Value}
    {f19 : Addr} {od19 an19 : Option Addr} {sl19 : Array (Option Value)} {oc19 kV19 dc19 pm19 cd19 ct19 : Value}
    {f20 : Addr} {od20 an20 : Option Addr} {sl20 : Array (Option Value)} {oc20 kV20 dc20 pm20 cd20 ct20 : Value}
    {f21 : Addr} {od21 an21 : Option Addr} {sl21 : Array (Option Value)} {oc21 kV21 dc21 pm21 cd21 ct21 : Value}
    {f22 : Addr} {od22 an22 : Option Addr} {sl22 : Array (Option Value)} {oc22 kV22 dc22 pm22 cd22 ct22 : Value}
    {f23 : Addr} {od23 an23 : Option Addr} {sl23 : Array (Option Value)} {oc23 kV23 dc23 pm23 cd23 ct23 : Value}
    {f24 : Addr} {od24 an24 : Option Addr} {sl24 : Array (Option Value)} {oc24 kV24 dc24 pm24 cd24 ct24 : Value}
    {f25 : Addr} {od25 an25 : Option Addr} {sl25 : Array (Option Value)} {oc25 kV25 dc25 pm25 cd25 ct25 : Value}
    {f26 : Addr} {od26 an26 : Option Addr} {sl26 : Array (Option Value)} {oc26 kV26 dc26 pm26 cd26 ct26 : Value}
    {f27 : Addr} {od27 an27 : Option Addr} {sl27 : Array (Option Value)} {oc27 kV27 dc27 pm27 cd27 ct27 : Value}
    {f28 : Addr} {od28 an28 : Option Addr} {sl28 : Array (Option Value)} {oc28 kV28 dc28 pm28 cd28 ct28 : Value}
    {D_LIMITS : Addr} {es_LIMITS : Array DictEntry} {dn_LIMITS : Nat}
    {tk_LIMITS_nodes : Tok}
    (aC_Net : PySem.W.nsIn K mainGlobals "Net" = some (some (.ref C_Net)))
    (pg_Net : PySem.W.plainGet K C_Net Str.empty = true) (hd_Net : PySem.W.hasDictIn K C_Net = true) (po_Net : PySem.W.plainOver K C_Net = true) (sa_Net : PySem.W.findIn K (.ref C_Net) "__setattr__" = some (some (.builtin "object.__setattr__"))) (mk_Net : PySem.W.makesIn K C_Net = true) (kc_Net : PySem.W.keepIn K (.ref C_Net) = true)
    (n_Net_own_nodes : PySem.W.findIn K (.ref C_Net) "own_nodes" = some none)
    (aC_Split : PySem.W.nsIn K mainGlobals "Split" = some (some (.ref C_Split)))
    (pg_Split : PySem.W.plainGet K C_Split Str.empty = true) (hd_Split : PySem.W.hasDictIn K C_Split = true) (po_Split : PySem.W.plainOver K C_Split = true) (sa_Split : PySem.W.findIn K (.ref C_Split) "__setattr__" = some (some (.builtin "object.__setattr__"))) (mk_Split : PySem.W.makesIn K C_Split = true) (kc_Split : PySem.W.keepIn K (.ref C_Split) = true)
    (n_Split_own_count : PySem.W.findIn K (.ref C_Split) "own_count" = some none)
    (n_Split_own_arcs : PySem.W.findIn K (.ref C_Split) "own_arcs" = some none)
    (n_Split_own_lines : PySem.W.findIn K (.ref C_Split) "own_lines" = some none)
    (n_Split_own_amounts : PySem.W.findIn K (.ref C_Split) "own_amounts" = some none)
    (a0 : PySem.W.nsIn K mainGlobals "bound" = some (some (.ref f0))) (l0 : K.lookup f0 = some ⟨oc0, od0, .func (PySem.W.fnOf "bound" "bound" (defArgs s_bound) (defBody s_bound) (defScope s_bound) .none kV0 dc0 pm0 an0 cd0 ct0), sl0⟩) (c0 : PySem.W.codeIn K cd0 "bound" = true) (k0 : PySem.W.keepIn K (.ref f0) = true)
    (a1 : PySem.W.nsIn K mainGlobals "lines_at" = some (some (.ref f1))) (l1 : K.lookup f1 = some ⟨oc1, od1, .func (PySem.W.fnOf "lines_at" "lines_at" (defArgs s_lines_at) (defBody s_lines_at) (defScope s_lines_at) .none kV1 dc1 pm1 an1 cd1 ct1), sl1⟩) (c1 : PySem.W.codeIn K cd1 "lines_at" = true) (k1 : PySem.W.keepIn K (.ref f1) = true)
    (a2 : PySem.W.nsIn K mainGlobals "passes" = some (some (.ref f2))) (l2 : K.lookup f2 = some ⟨oc2, od2, .func (PySem.W.fnOf "passes" "passes" (defArgs s_passes) (defBody s_passes) (defScope s_passes) .none kV2 dc2 pm2 an2 cd2 ct2), sl2⟩) (c2 : PySem.W.codeIn K cd2 "passes" = true) (k2 : PySem.W.keepIn K (.ref f2) = true)
    (a3 : PySem.W.nsIn K mainGlobals "reached" = some (some (.ref f3))) (l3 : K.lookup f3 = some ⟨oc3, od3, .func (PySem.W.fnOf "reached" "reached" (defArgs s_reached) (defBody s_reached) (defScope s_reached) .none kV3 dc3 pm3 an3 cd3 ct3), sl3⟩) (c3 : PySem.W.codeIn K cd3 "reached" = true) (k3 : PySem.W.keepIn K (.ref f3) = true)
    (a4 : PySem.W.nsIn K mainGlobals "steps_to" = some (some (.ref f4))) (l4 : K.lookup f4 = some ⟨oc4, od4, .func (PySem.W.fnOf "steps_to" "steps_to" (defArgs s_steps_to) (defBody s_steps_to) (defScope s_steps_to) .none kV4 dc4 pm4 an4 cd4 ct4), sl4⟩) (c4 : PySem.W.codeIn K cd4 "steps_to" = true) (k4 : PySem.W.keepIn K (.ref f4) = true)
    (a5 : PySem.W.nsIn K mainGlobals "room_left" = some (some (.ref f5))) (l5 : K.lookup f5 = some ⟨oc5, od5, .func (PySem.W.fnOf "room_left" "room_left" (defArgs s_room_left) (defBody s_room_left) (defScope s_room_left) .none kV5 dc5 pm5 an5 cd5 ct5), sl5⟩) (c5 : PySem.W.codeIn K cd5 "room_left" = true) (k5 : PySem.W.keepIn K (.ref f5) = true)
    (a6 : PySem.W.nsIn K mainGlobals "filled" = some (some (.ref f6))) (l6 : K.lookup f6 = some ⟨oc6, od6, .func (PySem.W.fnOf "filled" "filled" (defArgs s_filled) (defBody s_filled) (defScope s_filled) .none kV6 dc6 pm6 an6 cd6 ct6), sl6⟩) (c6 : PySem.W.codeIn K cd6 "filled" = true) (k6 : PySem.W.keepIn K (.ref f6) = true)
    (a7 : PySem.W.nsIn K mainGlobals "living" = some (some (.ref f7))) (l7 : K.lookup f7 = some ⟨oc7, od7, .func (PySem.W.fnOf "living" "living" (defArgs s_living) (defBody s_living) (defScope s_living) .none kV7 dc7 pm7 an7 cd7 ct7), sl7⟩) (c7 : PySem.W.codeIn K cd7 "living" = true) (k7 : PySem.W.keepIn K (.ref f7) = true)
    (a8 : PySem.W.nsIn K mainGlobals "lines_between" = some (some (.ref f8))) (l8 : K.lookup f8 = some ⟨oc8, od8, .func (PySem.W.fnOf "lines_between" "lines_between" (defArgs s_lines_between) (defBody s_lines_between) (defScope s_lines_between) .none kV8 dc8 pm8 an8 cd8 ct8), sl8⟩) (c8 : PySem.W.codeIn K cd8 "lines_between" = true) (k8 : PySem.W.keepIn K (.ref f8) = true)
    (a9 : PySem.W.findIn K (.ref C_Split) "__init__" = some (some (.ref f9))) (i9 : PySem.W.isFn K (.ref f9) = true) (l9 : K.lookup f9 = some ⟨oc9, od9, .func (PySem.W.fnOf "__init__" "Split.__init__" (defArgs s_Split___init__) (defBody s_Split___init__) (defScope s_Split___init__) .none kV9 dc9 pm9 an9 cd9 ct9), sl9⟩) (c9 : PySem.W.codeIn K cd9 "Split.__init__" = true) (k9 : PySem.W.keepIn K (.ref f9) = true)
    (a10 : PySem.W.nsIn K mainGlobals "step_on" = some (some (.ref f10))) (l10 : K.lookup f10 = some ⟨oc10, od10, .func (PySem.W.fnOf "step_on" "step_on" (defArgs s_step_on) (defBody s_step_on) (defScope s_step_on) .none kV10 dc10 pm10 an10 cd10 ct10), sl10⟩) (c10 : PySem.W.codeIn K cd10 "step_on" = true) (k10 : PySem.W.keepIn K (.ref f10) = true)
    (a11 : PySem.W.nsIn K mainGlobals "greatest_ways" = some (some (.ref f11))) (l11 : K.lookup f11 = some ⟨oc11, od11, .func (PySem.W.fnOf "greatest_ways" "greatest_ways" (defArgs s_greatest_ways) (defBody s_greatest_ways) (defScope s_greatest_ways) .none kV11 dc11 pm11 an11 cd11 ct11), sl11⟩) (c11 : PySem.W.codeIn K cd11 "greatest_ways" = true) (k11 : PySem.W.keepIn K (.ref f11) = true)
    (a12 : PySem.W.findIn K (.ref C_Net) "__init__" = some (some (.ref f12))) (i12 : PySem.W.isFn K (.ref f12) = true) (l12 : K.lookup f12 = some ⟨oc12, od12, .func (PySem.W.fnOf "__init__" "Net.__init__" (defArgs s_Net___init__) (defBody s_Net___init__) (defScope s_Net___init__) .none kV12 dc12 pm12 an12 cd12 ct12), sl12⟩) (c12 : PySem.W.codeIn K cd12 "Net.__init__" = true) (k12 : PySem.W.keepIn K (.ref f12) = true)
    (a13 : PySem.W.findIn K (.ref C_Net) "greatest" = some (some (.ref f13))) (i13 : PySem.W.isFn K (.ref f13) = true) (l13 : K.lookup f13 = some ⟨oc13, od13, .func (PySem.W.fnOf "greatest" "Net.greatest" (defArgs s_Net_greatest) (defBody s_Net_greatest) (defScope s_Net_greatest) .none kV13 dc13 pm13 an13 cd13 ct13), sl13⟩) (c13 : PySem.W.codeIn K cd13 "Net.greatest" = true) (k13 : PySem.W.keepIn K (.ref f13) = true)
    (a14 : PySem.W.nsIn K mainGlobals "_law_source" = some (some (.ref f14))) (l14 : K.lookup f14 = some ⟨oc14, od14, .func (PySem.W.fnOf "_law_source" "_law_source" (defArgs s_law_source) (defBody s_law_source) (defScope s_law_source) .none kV14 dc14 pm14 an14 cd14 ct14), sl14⟩) (c14 : PySem.W.codeIn K cd14 "_law_source" = true) (k14 : PySem.W.keepIn K (.ref f14) = true)
    (a15 : PySem.W.nsIn K mainGlobals "_law_pick" = some (some (.ref f15))) (l15 : K.lookup f15 = some ⟨oc15, od15, .func (PySem.W.fnOf "_law_pick" "_law_pick" (defArgs s_law_pick) (defBody s_law_pick) (defScope s_law_pick) .none kV15 dc15 pm15 an15 cd15 ct15), sl15⟩) (c15 : PySem.W.codeIn K cd15 "_law_pick" = true) (k15 : PySem.W.keepIn K (.ref f15) = true)
    (a16 : PySem.W.nsIn K mainGlobals "_law_shuffled" = some (some (.ref f16))) (l16 : K.lookup f16 = some ⟨oc16, od16, .func (PySem.W.fnOf "_law_shuffled" "_law_shuffled" (defArgs s_law_shuffled) (defBody s_law_shuffled) (defScope s_law_shuffled) .none kV16 dc16 pm16 an16 cd16 ct16), sl16⟩) (c16 : PySem.W.codeIn K cd16 "_law_shuffled" = true) (k16 : PySem.W.keepIn K (.ref f16) = true)
    (a17 : PySem.W.nsIn K mainGlobals "_law_same" = some (some (.ref f17))) (l17 : K.lookup f17 = some ⟨oc17, od17, .func (PySem.W.fnOf "_law_same" "_law_same" (defArgs s_law_same) (defBody s_law_same) (defScope s_law_same) .none kV17 dc17 pm17 an17 cd17 ct17), sl17⟩) (c17 : PySem.W.codeIn K cd17 "_law_same" = true) (k17 : PySem.W.keepIn K (.ref f17) = true)
    (a18 : PySem.W.nsIn K mainGlobals "_law_c_made" = some (some (.ref f18))) (l18 : K.lookup f18 = some ⟨oc18, od18, .func (PySem.W.fnOf "_law_c_made" "_law_c_made" (defArgs s_law_c_made) (defBody s_law_c_made) (defScope s_law_c_made) .none kV18 dc18 pm18 an18 cd18 ct18), sl18⟩) (c18 : PySem.W.codeIn K cd18 "_law_c_made" = true) (k18 : PySem.W.keepIn K (.ref f18) = true)
    (a19 : PySem.W.nsIn K mainGlobals "_law_c_living" = some (some (.ref f19))) (l19 : K.lookup f19 = some ⟨oc19, od19, .func (PySem.W.fnOf "_law_c_living" "_law_c_living" (defArgs s_law_c_living) (defBody s_law_c_living) (defScope s_law_c_living) .none kV19 dc19 pm19 an19 cd19 ct19), sl19⟩) (c19 : PySem.W.codeIn K cd19 "_law_c_living" = true) (k19 : PySem.W.keepIn K (.ref f19) = true)
    (a20 : PySem.W.nsIn K mainGlobals "_law_c_weight" = some (some (.ref f20))) (l20 : K.lookup f20 = some ⟨oc20, od20, .func (PySem.W.fnOf "_law_c_weight" "_law_c_weight" (defArgs s_law_c_weight) (defBody s_law_c_weight) (defScope s_law_c_weight) .none kV20 dc20 pm20 an20 cd20 ct20), sl20⟩) (c20 : PySem.W.codeIn K cd20 "_law_c_weight" = true) (k20 : PySem.W.keepIn K (.ref f20) = true)
    (a21 : PySem.W.nsIn K mainGlobals "_law_c_next" = some (some (.ref f21))) (l21 : K.lookup f21 = some ⟨oc21, od21, .func (PySem.W.fnOf "_law_c_next" "_law_c_next" (defArgs s_law_c_next) (defBody s_law_c_next) (defScope s_law_c_next) .none kV21 dc21 pm21 an21 cd21 ct21), sl21⟩) (c21 : PySem.W.codeIn K cd21 "_law_c_next" = true) (k21 : PySem.W.keepIn K (.ref f21) = true)
    (a22 : PySem.W.nsIn K mainGlobals "_law_c_flow" = some (some (.ref f22))) (l22 : K.lookup f22 = some ⟨oc22, od22, .func (PySem.W.fnOf "_law_c_flow" "_law_c_flow" (defArgs s_law_c_flow) (defBody s_law_c_flow) (defScope s_law_c_flow) .none kV22 dc22 pm22 an22 cd22 ct22), sl22⟩) (c22 : PySem.W.codeIn K cd22 "_law_c_flow" = true) (k22 : PySem.W.keepIn K (.ref f22) = true)
    (a23 : PySem.W.nsIn K mainGlobals "_law_c_earliest" = some (some (.ref f23))) (l23 : K.lookup f23 = some ⟨oc23, od23, .func (PySem.W.fnOf "_law_c_earliest" "_law_c_earliest" (defArgs s_law_c_earliest) (defBody s_law_c_earliest) (defScope s_law_c_earliest) .none kV23 dc23 pm23 an23 cd23 ct23), sl23⟩) (c23 : PySem.W.codeIn K cd23 "_law_c_earliest" = true) (k23 : PySem.W.keepIn K (.ref f23) = true)
    (a24 : PySem.W.nsIn K mainGlobals "_law_c_net" = some (some (.ref f24))) (l24 : K.lookup f24 = some ⟨oc24, od24, .func (PySem.W.fnOf "_law_c_net" "_law_c_net" (defArgs s_law_c_net) (defBody s_law_c_net) (defScope s_law_c_net) .none kV24 dc24 pm24 an24 cd24 ct24), sl24⟩) (c24 : PySem.W.codeIn K cd24 "_law_c_net" = true) (k24 : PySem.W.keepIn K (.ref f24) = true)
    (a25 : PySem.W.nsIn K mainGlobals "_law_c_goals" = some (some (.ref f25))) (l25 : K.lookup f25 = some ⟨oc25, od25, .func (PySem.W.fnOf "_law_c_goals" "_law_c_goals" (defArgs s_law_c_goals) (defBody s_law_c_goals) (defScope s_law_c_goals) .none kV25 dc25 pm25 an25 cd25 ct25), sl25⟩) (c25 : PySem.W.codeIn K cd25 "_law_c_goals" = true) (k25 : PySem.W.keepIn K (.ref f25) = true)
    (a26 : PySem.W.nsIn K mainGlobals "_law_c_braid" = some (some (.ref f26))) (l26 : K.lookup f26 = some ⟨oc26, od26, .func (PySem.W.fnOf "_law_c_braid" "_law_c_braid" (defArgs s_law_c_braid) (defBody s_law_c_braid) (defScope s_law_c_braid) .none kV26 dc26 pm26 an26 cd26 ct26), sl26⟩) (c26 : PySem.W.codeIn K cd26 "_law_c_braid" = true) (k26 : PySem.W.keepIn K (.ref f26) = true)
    (a27 : PySem.W.nsIn K mainGlobals "_law_c_any" = some (some (.ref f27))) (l27 : K.lookup f27 = some ⟨oc27, od27, .func (PySem.W.fnOf "_law_c_any" "_law_c_any" (defArgs s_law_c_any) (defBody s_law_c_any) (defScope s_law_c_any) .none kV27 dc27 pm27 an27 cd27 ct27), sl27⟩) (c27 : PySem.W.codeIn K cd27 "_law_c_any" = true) (k27 : PySem.W.keepIn K (.ref f27) = true)
    (a28 : PySem.W.nsIn K mainGlobals "law" = some (some (.ref f28))) (l28 : K.lookup f28 = some ⟨oc28, od28, .func (PySem.W.fnOf "law" "law" (defArgs s_law) (defBody s_law) (defScope s_law) .none kV28 dc28 pm28 an28 cd28 ct28), sl28⟩) (c28 : PySem.W.codeIn K cd28 "law" = true) (k28 : PySem.W.keepIn K (.ref f28) = true)
    (v29 : PySem.W.nsIn K mainGlobals "LIMITS" = some (some (.ref D_LIMITS))) (l29 : K.lookup D_LIMITS = some ⟨.type "dict", none, .dict es_LIMITS dn_LIMITS, #[]⟩) (kk29 : PySem.W.KeysLit w.params es_LIMITS.toList)
    (dx_LIMITS_nodes : PySem.W.nsIn K D_LIMITS "nodes" = some (some (.int 400 tk_LIMITS_nodes)))
    (z30 : PySem.W.nsIn K mainGlobals "all" = some none)
    (z31 : PySem.W.nsIn K mainGlobals "any" = some none)
    (z32 : PySem.W.nsIn K mainGlobals "bool" = some none)
    (z33 : PySem.W.nsIn K mainGlobals "dict" = some none)
    (z34 : PySem.W.nsIn K mainGlobals "int" = some none)
    (z35 : PySem.W.nsIn K mainGlobals "isinstance" = some none)
    (z36 : PySem.W.nsIn K mainGlobals "len" = some none)
    (z37 : PySem.W.nsIn K mainGlobals "list" = some none)
    (z38 : PySem.W.nsIn K mainGlobals "min" = some none)
    (z39 : PySem.W.nsIn K mainGlobals "range" = some none)
    (z40 : PySem.W.nsIn K mainGlobals "reversed" = some none)
    (z41 : PySem.W.nsIn K mainGlobals "set" = some none)
    (z42 : PySem.W.nsIn K mainGlobals "sorted" = some none)
    (z43 : PySem.W.nsIn K mainGlobals "str" = some none)
    (z44 : PySem.W.nsIn K mainGlobals "sum" = some none)
    (z45 : PySem.W.nsIn K mainGlobals "tuple" = some none)
    (z46 : PySem.W.nsIn K mainGlobals "zip" = some none) : Top w K mg where
  C_Net := C_Net
  m_Net := PySem.W.mg_of X G aC_Net
  cl_Net := ⟨pg_Net, hd_Net, po_Net, sa_Net⟩
  n_Net_own_nodes := n_Net_own_nodes
  C_Split := C_Split
  m_Split := PySem.W.mg_of X G aC_Split
  cl_Split := ⟨pg_Split, hd_Split, po_Split, sa_Split⟩
  n_Split_own_count := n_Split_own_count
  n_Split_own_arcs := n_Split_own_arcs
  n_Split_own_lines := n_Split_own_lines
  n_Split_own_amounts := n_Split_own_amounts
  a_bound := f0
  d_bound := _
  F_bound := fun_mk l0 c0 k0
  b_bound := (fun_mk (st := s_bound) l0 c0 k0).binds fun _ _ _ _ _ _ us hl => match us, hl with | [_, _], _ => rfl
  m_bound := PySem.W.mg_of X G a0
  a_lines_at := f1
  d_lines_at := _
  F_lines_at := fun_mk l1 c1 k1
  b_lines_at := (fun_mk (st := s_lines_at) l1 c1 k1).binds fun _ _ _ _ _ _ us hl => match us, hl with | [_, _], _ => rfl
  m_lines_at := PySem.W.mg_of X G a1
  a_passes := f2
  d_passes := _
  F_passes := fun_mk l2 c2 k2
  b_passes := (fun_mk (st := s_passes) l2 c2 k2).binds fun _ _ _ _ _ _ us hl => match us, hl with | [_, _, _, _], _ => rfl
  m_passes := PySem.W.mg_of X G a2
  a_reached := f3
  d_reached := _
  F_reached := fun_mk l3 c3 k3
  b_reached := (fun_mk (st := s_reached) l3 c3 k3).binds fun _ _ _ _ _ _ us hl => match us, hl with | [_, _, _, _, _], _ => rfl
  m_reached := PySem.W.mg_of X G a3
  a_steps_to := f4
  d_steps_to := _
  F_steps_to := fun_mk l4 c4 k4
  b_steps_to := (fun_mk (st := s_steps_to) l4 c4 k4).binds fun _ _ _ _ _ _ us hl => match us, hl with | [_, _], _ => rfl
  m_steps_to := PySem.W.mg_of X G a4
  a_room_left := f5
  d_room_left := _
  F_room_left := fun_mk l5 c5 k5
  b_room_left := (fun_mk (st := s_room_left) l5 c5 k5).binds fun _ _ _ _ _ _ us hl => match us, hl with | [_, _, _, _], _ => rfl
  m_room_left := PySem.W.mg_of X G a5
  a_filled := f6
  d_filled := _
  F_filled := fun_mk l6 c6 k6
  b_filled := (fun_mk (st := s_filled) l6 c6 k6).binds fun _ _ _ _ _ _ us hl => match us, hl with | [_, _, _, _], _ => rfl
  m_filled := PySem.W.mg_of X G a6
  a_living := f7
  d_living := _
  F_living := fun_mk l7 c7 k7
  b_living := (fun_mk (st := s_living) l7 c7 k7).binds fun _ _ _ _ _ _ us hl => match us, hl with | [_, _], _ => rfl
  m_living := PySem.W.mg_of X G a7
  a_lines_between := f8
  d_lines_between := _
  F_lines_between := fun_mk l8 c8 k8
  b_lines_between := (fun_mk (st := s_lines_between) l8 c8 k8).binds fun _ _ _ _ _ _ us hl => match us, hl with | [_, _], _ => rfl
  m_lines_between := PySem.W.mg_of X G a8
  a_Split___init__ := f9
  d_Split___init__ := _
  F_Split___init__ := fun_mk l9 c9 k9
  b_Split___init__ := (fun_mk (st := s_Split___init__) l9 c9 k9).binds fun _ _ _ _ _ _ us hl => match us, hl with | [_, _, _], _ => rfl
  M_Split___init__ := ⟨mk_Split, a9, i9, kc_Split⟩
  a_step_on := f10
  d_step_on := _
  F_step_on := fun_mk l10 c10 k10
  b_step_on := (fun_mk (st := s_step_on) l10 c10 k10).binds fun _ _ _ _ _ _ us hl => match us, hl with | [_, _, _], _ => rfl
  m_step_on := PySem.W.mg_of X G a10
  a_greatest_ways := f11
  d_greatest_ways := _
  F_greatest_ways := fun_mk l11 c11 k11
  b_greatest_ways := (fun_mk (st := s_greatest_ways) l11 c11 k11).binds fun _ _ _ _ _ _ us hl => match us, hl with | [_, _], _ => rfl
  m_greatest_ways := PySem.W.mg_of X G a11
  a_Net___init__ := f12
  d_Net___init__ := _
  F_Net___init__ := fun_mk l12 c12 k12
  b_Net___init__ := (fun_mk (st := s_Net___init__) l12 c12 k12).binds fun _ _ _ _ _ _ us hl => match us, hl with | [_, _], _ => rfl
  M_Net___init__ := ⟨mk_Net, a12, i12, kc_Net⟩
  a_Net_greatest := f13
  d_Net_greatest := _
  F_Net_greatest := fun_mk l13 c13 k13
  b_Net_greatest := (fun_mk (st := s_Net_greatest) l13 c13 k13).binds fun _ _ _ _ _ _ us hl => match us, hl with | [_, _], _ => rfl
  M_Net_greatest := ⟨a13, i13, k13⟩
  a_law_source := f14
  d_law_source := _
  F_law_source := fun_mk l14 c14 k14
  b_law_source := (fun_mk (st := s_law_source) l14 c14 k14).binds fun _ _ _ _ _ _ us hl => match us, hl with | [_, _], _ => rfl
  m_law_source := PySem.W.mg_of X G a14
  a_law_pick := f15
  d_law_pick := _
  F_law_pick := fun_mk l15 c15 k15
  b_law_pick := (fun_mk (st := s_law_pick) l15 c15 k15).binds fun _ _ _ _ _ _ us hl => match us, hl with | [_, _], _ => rfl
  m_law_pick := PySem.W.mg_of X G a15
  a_law_shuffled := f16
  d_law_shuffled := _
  F_law_shuffled := fun_mk l16 c16 k16
  b_law_shuffled := (fun_mk (st := s_law_shuffled) l16 c16 k16).binds fun _ _ _ _ _ _ us hl => match us, hl with | [_, _], _ => rfl
  m_law_shuffled := PySem.W.mg_of X G a16
  a_law_same := f17
  d_law_same := _
  F_law_same := fun_mk l17 c17 k17
  b_law_same := (fun_mk (st := s_law_same) l17 c17 k17).binds fun _ _ _ _ _ _ us hl => match us, hl with | [_, _], _ => rfl
  m_law_same := PySem.W.mg_of X G a17
  a_law_c_made := f18
  d_law_c_made := _
  F_law_c_made := fun_mk l18 c18 k18
  b_law_c_made := (fun_mk (st := s_law_c_made) l18 c18 k18).binds fun _ _ _ _ _ _ us hl => match us, hl with | [_, _], _ => rfl
  m_law_c_made := PySem.W.mg_of X G a18
  a_law_c_living := f19
  d_law_c_living := _
  F_law_c_living := fun_mk l19 c19 k19
  b_law_c_living := (fun_mk (st := s_law_c_living) l19 c19 k19).binds fun _ _ _ _ _ _ us hl => match us, hl with | [_, _], _ => rfl
  m_law_c_living := PySem.W.mg_of X G a19
  a_law_c_weight := f20
  d_law_c_weight := _
  F_law_c_weight := fun_mk l20 c20 k20
  b_law_c_weight := (fun_mk (st := s_law_c_weight) l20 c20 k20).binds fun _ _ _ _ _ _ us hl => match us, hl with | [_, _], _ => rfl
  m_law_c_weight := PySem.W.mg_of X G a20
  a_law_c_next := f21
  d_law_c_next := _
  F_law_c_next := fun_mk l21 c21 k21
  b_law_c_next := (fun_mk (st := s_law_c_next) l21 c21 k21).binds fun _ _ _ _ _ _ us hl => match us, hl with | [_, _, _, _, _, _], _ => rfl
  m_law_c_next := PySem.W.mg_of X G a21
  a_law_c_flow := f22
  d_law_c_flow := _
  F_law_c_flow := fun_mk l22 c22 k22
  b_law_c_flow := (fun_mk (st := s_law_c_flow) l22 c22 k22).binds fun _ _ _ _ _ _ us hl => match us, hl with | [_, _], _ => rfl
  m_law_c_flow := PySem.W.mg_of X G a22
  a_law_c_earliest := f23
  d_law_c_earliest := _
  F_law_c_earliest := fun_mk l23 c23 k23
  b_law_c_earliest := (fun_mk (st := s_law_c_earliest) l23 c23 k23).binds fun _ _ _ _ _ _ us hl => match us, hl with | [_, _], _ => rfl
  m_law_c_earliest := PySem.W.mg_of X G a23
  a_law_c_net := f24
  d_law_c_net := _
  F_law_c_net := fun_mk l24 c24 k24
  b_law_c_net := (fun_mk (st := s_law_c_net) l24 c24 k24).binds fun _ _ _ _ _ _ us hl => match us, hl with | [_, _], _ => rfl
  m_law_c_net := PySem.W.mg_of X G a24
  a_law_c_goals := f25
  d_law_c_goals := _
  F_law_c_goals := fun_mk l25 c25 k25
  b_law_c_goals := (fun_mk (st := s_law_c_goals) l25 c25 k25).binds fun _ _ _ _ _ _ us hl => match us, hl with | [_, _, _], _ => rfl
  m_law_c_goals := PySem.W.mg_of X G a25
  a_law_c_braid := f26
  d_law_c_braid := _
  F_law_c_braid := fun_mk l26 c26 k26
  b_law_c_braid := (fun_mk (st := s_law_c_braid) l26 c26 k26).binds fun _ _ _ _ _ _ us hl => match us, hl with | [_], _ => rfl
  m_law_c_braid := PySem.W.mg_of X G a26
  a_law_c_any := f27
  d_law_c_any := _
  F_law_c_any := fun_mk l27 c27 k27
  b_law_c_any := (fun_mk (st := s_law_c_any) l27 c27 k27).binds fun _ _ _ _ _ _ us hl => match us, hl with | [_], _ => rfl
  m_law_c_any := PySem.W.mg_of X G a27
  a_law := f28
  d_law := _
  F_law := fun_mk l28 c28 k28
  b_law := (fun_mk (st := s_law) l28 c28 k28).binds fun _ _ _ _ _ _ us hl => match us, hl with | [_], _ => rfl
  m_law := PySem.W.mg_of X G a28
  bt_law := fun s v => .of_eq rfl
  a_LIMITS := D_LIMITS
  m_LIMITS := PySem.W.mg_of X G v29
  k_LIMITS_nodes := ⟨_, _, _, l29, kk29, dx_LIMITS_nodes, ⟨_, rfl⟩⟩
  m_all := PySem.W.mg_none_of X G z30
  m_any := PySem.W.mg_none_of X G z31
  m_bool := PySem.W.mg_none_of X G z32
  m_dict := PySem.W.mg_none_of X G z33
  m_int := PySem.W.mg_none_of X G z34
  m_isinstance := PySem.W.mg_none_of X G z35
  m_len := PySem.W.mg_none_of X G z36
  m_list := PySem.W.mg_none_of X G z37
  m_min := PySem.W.mg_none_of X G z38
  m_range := PySem.W.mg_none_of X G z39
  m_reversed := PySem.W.mg_none_of X G z40
  m_set := PySem.W.mg_none_of X G z41
  m_sorted := PySem.W.mg_none_of X G z42
  m_str := PySem.W.mg_none_of X G z43
  m_sum := PySem.W.mg_none_of X G z44
  m_tuple := PySem.W.mg_none_of X G z45
  m_zip := PySem.W.mg_none_of X G z46
theorem all_law {l : PySem.W.OpenLaw} {w : World} {K : PySem.W.Frag} {mg : Str → Option Value} {fa : Addr} (hfa : mg "law" = some (.ref fa)) (T : Top w K mg) :
    ∃ fd : FuncData, (∀ (s : Shared) (v : Value), BindsTo s fd ⟨[v], []⟩ [("script", v)]) ∧ ∀ base : Heap, K.In base → base.Ns mainGlobals mg → FnOk l.prog w K mg base CX0 8 fa fd ["script"] (spLaw K) := by
  have e := hfa.symm.trans T.m_law
  have e2 : fa = T.a_law := by
    have := Option.some.inj e
    injection this
  subst e2
  exact ⟨T.d_law, T.bt_law, fun base _ _ => ok_law T⟩
end K15W
open PySem PySem.W PyProof.Rows
set_option maxHeartbeats 0 in
theorem PySem.Challenge.cw_tellsasleep_k19_numbers_add_up_holds : PySem.Challenge.rw_tellsasleep_k19_numbers_add_up.Holds := by
  w_on; o_law; k_head; (case hw => w_witness2)
  k_fill
  refine L2.walk_of (l := PySem.Challenge.rw_tellsasleep_k19_numbers_add_up) (n := 63) (k := 8) (x := "script") (CX := fun _ => L2.CX0) (sp := fun w => K15W.spLaw _) rfl (by decide) rfl ⟨rfl, by decide, by decide⟩ (fun w h Y => PySem.W.kIn_of Y) ?F (fun _ _ a ns hl _ hS => ⟨a, ns, rfl, hS, hl, fun _ => rfl⟩) (fun _ _ _ _ _ h => h)
  case F =>
    intro w mg fa h KX G hmg
    refine' K15W.all_law hmg (K15W.top_mk KX G ?aC_Net ?pg_Net ?hd_Net ?po_Net ?sa_Net ?mk_Net ?kc_Net ?n_Net_own_nodes ?aC_Split ?pg_Split ?hd_Split ?po_Split ?sa_Split ?mk_Split ?kc_Split ?n_Split_own_count ?n_Split_own_arcs ?n_Split_own_lines ?n_Split_own_amounts ?a0 ?l0 ?c0 ?k0 ?a1 ?l1 ?c1 ?k1 ?a2 ?l2 ?c2 ?k2 ?a3 ?l3 ?c3 ?k3 ?a4 ?l4 ?c4 ?k4 ?a5 ?l5 ?c5 ?k5 ?a6 ?l6 ?c6 ?k6 ?a7 ?l7 ?c7 ?k7 ?a8 ?l8 ?c8 ?k8 ?a9 ?i9 ?l9 ?c9 ?k9 ?a10 ?l10 ?c10 ?k10 ?a11 ?l11 ?c11 ?k11 ?a12 ?i12 ?l12 ?c12 ?k12 ?a13 ?i13 ?l13 ?c13 ?k13 ?a14 ?l14 ?c14 ?k14 ?a15 ?l15 ?c15 ?k15 ?a16 ?l16 ?c16 ?k16 ?a17 ?l17 ?c17 ?k17 ?a18 ?l18 ?c18 ?k18 ?a19 ?l19 ?c19 ?k19 ?a20 ?l20 ?c20 ?k20 ?a21 ?l21 ?c21 ?k21 ?a22 ?l22 ?c22 ?k22 ?a23 ?l23 ?c23 ?k23 ?a24 ?l24 ?c24 ?k24 ?a25 ?l25 ?c25 ?k25 ?a26 ?l26 ?c26 ?k26 ?a27 ?l27 ?c27 ?k27 ?a28 ?l28 ?c28 ?k28 ?v29 ?l29 ?kk29 ?dx_LIMITS_nodes ?z30 ?z31 ?z32 ?z33 ?z34 ?z35 ?z36 ?z37 ?z38 ?z39 ?z40 ?z41 ?z42 ?z43 ?z44 ?z45 ?z46)
    (case aC_Net => k_is); (case pg_Net => k_is); (case hd_Net => k_is); (case po_Net => k_is); (case sa_Net => k_is); (case mk_Net => k_is); (case kc_Net => k_is); (case n_Net_own_nodes => k_is); (case aC_Split => k_is); (case pg_Split => k_is); (case hd_Split => k_is); (case po_Split => k_is); (case sa_Split => k_is); (case mk_Split => k_is); (case kc_Split => k_is); (case n_Split_own_count => k_is); (case n_Split_own_arcs => k_is); (case n_Split_own_lines => k_is); (case n_Split_own_amounts => k_is); (case a0 => k_is); (case l0 => k_is); (case c0 => k_is); (case k0 => k_is); (case a1 => k_is); (case l1 => k_is); (case c1 => k_is); (case k1 => k_is); (case a2 => k_is); (case l2 => k_is); (case c2 => k_is); (case k2 => k_is); (case a3 => k_is); (case l3 => k_is); (case c3 => k_is); (case k3 => k_is); (case a4 => k_is); (case l4 => k_is); (case c4 => k_is); (case k4 => k_is); (case a5 => k_is); (case l5 => k_is); (case c5 => k_is); (case k5 => k_is); (case a6 => k_is); (case l6 => k_is); (case c6 => k_is); (case k6 => k_is); (case a7 => k_is); (case l7 => k_is); (case c7 => k_is); (case k7 => k_is); (case a8 => k_is); (case l8 => k_is); (case c8 => k_is); (case k8 => k_is); (case a9 => k_is); (case i9 => k_is); (case l9 => k_is); (case c9 => k_is); (case k9 => k_is); (case a10 => k_is); (case l10 => k_is); (case c10 => k_is); (case k10 => k_is); (case a11 => k_is); (case l11 => k_is); (case c11 => k_is); (case k11 => k_is); (case a12 => k_is); (case i12 => k_is); (case l12 => k_is); (case c12 => k_is); (case k12 => k_is); (case a13 => k_is); (case i13 => k_is); (case l13 => k_is); (case c13 => k_is); (case k13 => k_is); (case a14 => k_is); (case l14 => k_is); (case c14 => k_is); (case k14 => k_is); (case a15 => k_is); (case l15 => k_is); (case c15 => k_is); (case k15 => k_is); (case a16 => k_is); (case l16 => k_is); (case c16 => k_is); (case k16 => k_is); (case a17 => k_is); (case l17 => k_is); (case c17 => k_is); (case k17 => k_is); (case a18 => k_is); (case l18 => k_is); (case c18 => k_is); (case k18 => k_is); (case a19 => k_is); (case l19 => k_is); (case c19 => k_is); (case k19 => k_is); (case a20 => k_is); (case l20 => k_is); (case c20 => k_is); (case k20 => k_is); (case a21 => k_is); (case l21 => k_is); (case c21 => k_is); (case k21 => k_is); (case a22 => k_is); (case l22 => k_is); (case c22 => k_is); (case k22 => k_is); (case a23 => k_is); (case l23 => k_is); (case c23 => k_is); (case k23 => k_is); (case a24 => k_is); (case l24 => k_is); (case c24 => k_is); (case k24 => k_is); (case a25 => k_is); (case l25 => k_is); (case c25 => k_is); (case k25 => k_is); (case a26 => k_is); (case l26 => k_is); (case c26 => k_is); (case k26 => k_is); (case a27 => k_is); (case l27 => k_is); (case c27 => k_is); (case k27 => k_is); (case a28 => k_is); (case l28 => k_is); (case c28 => k_is); (case k28 => k_is); (case v29 => k_is); (case l29 => k_is); (case kk29 => k_keys); (case dx_LIMITS_nodes => k_is); (case z30 => k_is); (case z31 => k_is); (case z32 => k_is); (case z33 => k_is); (case z34 => k_is); (case z35 => k_is); (case z36 => k_is); (case z37 => k_is); (case z38 => k_is); (case z39 => k_is); (case z40 => k_is); (case z41 => k_is); (case z42 => k_is); (case z43 => k_is); (case z44 => k_is); (case z45 => k_is); (case z46 => k_is)
