import PyProof.Rows.All
import Wide.All
import OpenK.AllK
import Wide.FinOn
import HandS.ForMost
import HandS.IsInst
import HandS.Zip
import HandS.Wide
import HandS.Flow
import HandS.Conv
import HandS.SortInts
import HandS.Steps
import HandS.Evl
import PySem.Challenge.RW_tellsasleep_k00_tokens_sign_by_sign
set_option Elab.async false
set_option linter.all false
set_option maxRecDepth 100000
/-! LWBase: small words over the hand layer for all laws: heaps, data, the steps of a reading. -/
namespace LW
open PySem PySem.Spec PyProof.Rows L2 TL

/-! ### heaps -/
theorem same_new {H : Hp} {p : Addr} {o : HO} (h : H p = none) : Same H (upd H p o) := fun b x e => by
  rw [upd_ne (ne_of_none e h)]
  exact e
theorem same_t {H : Hp} {K : PySem.W.Frag} {H' : Hp} {a : Addr} {xs : List V} (e : Same H H') (h : SqT K H a xs) : SqT K H' a xs := by
  rcases h with (h | ⟨o, h⟩) | h
  · exact .inl (.inl (e _ _ h))
  · exact .inl (.inr ⟨o, e _ _ h⟩)
  · exact .inr h
/-- all but what stands at s is as it was -/
def But (s : Addr) (H H' : Hp) : Prop := ∀ b o, b ≠ s → H b = some o → H' b = some o
theorem But.refl (s : Addr) (H : Hp) : But s H H := fun _ _ _ h => h
theorem But.trans {s : Addr} {H H1 H2 : Hp} (a : But s H H1) (b : But s H1 H2) : But s H H2 := fun c o n h => b c o n (a c o n h)
theorem But.of {s : Addr} {H H' : Hp} (h : Same H H') : But s H H' := fun b o _ e => h b o e
theorem But.upd {s : Addr} {H : Hp} {o : HO} : But s H (upd H s o) := fun b x n e => by
  rw [upd_ne n]
  exact e
theorem But.free {s : Addr} {H H' : Hp} (e : But s H H') {l : Addr} (hs : l ≠ s) (h : H' l = none) : H l = none := by
  cases q : H l with
  | none => rfl
  | some o =>
    rw [e l o hs q] at h
    cases h
/-- a new object changed: all that stood before is as it was -/
theorem same_mut {H H' : Hp} {p : Addr} {o : HO} (e : Same H H') (h : H p = none) : Same H (upd H' p o) := fun a u ha => by
  rw [upd_ne (ne_of_none ha h)]
  exact e a u ha

/-- the heap without what stands at s -/
def wo (s : Addr) (H : Hp) : Hp := fun b => if b = s then none else H b
theorem wo_self {s : Addr} {H : Hp} : wo s H s = none := by
  unfold wo
  rw [if_pos rfl]
theorem wo_ne {s b : Addr} {H : Hp} (h : b ≠ s) : wo s H b = H b := by
  unfold wo
  rw [if_neg h]
theorem wo_same {s : Addr} {H : Hp} : Same (wo s H) H := fun b o e => by
  unfold wo at e
  split at e
  · cases e
  · exact e
theorem But.hid {s : Addr} {H H' : Hp} (h : But s H H') : Same (wo s H) (wo s H') := fun b o e => by
  unfold LW.wo at e ⊢
  split at e
  · cases e
  · rename_i n
    rw [if_neg n]
    exact h b o n e
theorem But.hid1 {s : Addr} {H H' : Hp} (h : But s H H') : Same (wo s H) H' := fun b o e => wo_same b o (h.hid b o e)
theorem But.trans' {s : Addr} {H H1 H2 : Hp} (a : But s H H1) (b : Same H1 H2) : But s H H2 := a.trans (.of b)
theorem Same.but {s : Addr} {H H1 H2 : Hp} (a : Same H H1) (b : But s H1 H2) : But s H H2 := (But.of a).trans b
/-- a new thing of ours is at s: all but s kept is all kept -/
theorem But.same {s : Addr} {H H' : Hp} (h : But s H H') (n : H s = none) : Same H H' := fun b o e => h b o (fun z => by rw [z, n] at e; cases e) e

/-! ### data that stands in tracked lists and tuples -/
mutual
def Dt (H : Hp) : V → PyData → Prop
  | v, .none => v = .non
  | v, .bool b => v = .bl b
  | v, .int i => v = .int i
  | v, .str x => v = .str x
  | v, .list ds => ∃ a xs, v = .ref a ∧ H a = some (.lst xs) ∧ DtAll H xs ds
  | v, .tuple ds => ∃ a xs, v = .ref a ∧ H a = some (.tup xs) ∧ DtAll H xs ds
  | _, .dict _ => False
def DtAll (H : Hp) : List V → List PyData → Prop
  | xs, [] => xs = []
  | xs, d :: ds => ∃ v vs, xs = v :: vs ∧ Dt H v d ∧ DtAll H vs ds
end
mutual
theorem Dt.same {H H' : Hp} (e : Same H H') : ∀ (d : PyData) (v : V), Dt H v d → Dt H' v d
  | .none, _, h => by
    unfold Dt at h ⊢
    exact h
  | .bool _, _, h => by
    unfold Dt at h ⊢
    exact h
  | .int _, _, h => by
    unfold Dt at h ⊢
    exact h
  | .str _, _, h => by
    unfold Dt at h ⊢
    exact h
  | .list ds, _, h => by
    unfold Dt at h ⊢
    obtain ⟨a, xs, e1, e2, e3⟩ := h
    exact ⟨a, xs, e1, e _ _ e2, DtAll.same e ds xs e3⟩
  | .tuple ds, _, h => by
    unfold Dt at h ⊢
    obtain ⟨a, xs, e1, e2, e3⟩ := h
    exact ⟨a, xs, e1, e _ _ e2, DtAll.same e ds xs e3⟩
  | .dict _, _, h => by
    unfold Dt at h
    exact h.elim
theorem DtAll.same {H H' : Hp} (e : Same H H') : ∀ (ds : List PyData) (xs : List V), DtAll H xs ds → DtAll H' xs ds
  | [], _, h => by
    unfold DtAll at h ⊢
    exact h
  | d :: ds, _, h => by
    unfold DtAll at h ⊢
    obtain ⟨v, vs, e1, e2, e3⟩ := h
    exact ⟨v, vs, e1, Dt.same e d v e2, DtAll.same e ds vs e3⟩
end
/-! ### data of tuples alone: nothing changes it -/
/-- all tuples stand as they stood -/
def Ts (H H' : Hp) : Prop := ∀ a xs, H a = some (.tup xs) → H' a = some (.tup xs)
theorem Ts.refl (H : Hp) : Ts H H := fun _ _ h => h
theorem Ts.trans {H H1 H2 : Hp} (a : Ts H H1) (b : Ts H1 H2) : Ts H H2 := fun c o h => b c o (a c o h)
theorem Ts.of {H H' : Hp} (h : Same H H') : Ts H H' := fun a _ e => h a _ e
theorem Ts.but {s : Addr} {H H' : Hp} {xs : List V} (h : But s H H') (hs : H s = some (.lst xs)) : Ts H H' := fun a ys e => h a _ (fun z => by rw [z, hs] at e; cases e) e
theorem Ts.upd {s : Addr} {H : Hp} {xs : List V} {o : HO} (hs : H s = some (.lst xs)) : Ts H (upd H s o) := Ts.but But.upd hs
theorem Ts.hid {s : Addr} {H H' : Hp} {xs : List V} (h : Ts H H') (hs : H s = some (.lst xs)) : Ts H (wo s H') := fun a ys e => by
  rw [wo_ne (fun z => by rw [z, hs] at e; cases e)]
  exact h a ys e
mutual
def fz : PyData → Bool
  | .list _ => false
  | .dict _ => false
  | .tuple ds => fzAll ds
  | _ => true
def fzAll : List PyData → Bool
  | [] => true
  | d :: ds => fz d && fzAll ds
end
mutual
theorem Dt.ts {H H' : Hp} (e : Ts H H') : ∀ (d : PyData) (v : V), fz d = true → Dt H v d → Dt H' v d
  | .none, _, _, h => by
    unfold Dt at h ⊢
    exact h
  | .bool _, _, _, h => by
    unfold Dt at h ⊢
    exact h
  | .int _, _, _, h => by
    unfold Dt at h ⊢
    exact h
  | .str _, _, _, h => by
    unfold Dt at h ⊢
    exact h
  | .list ds, _, f, _ => by
    unfold fz at f
    cases f
  | .tuple ds, _, f, h => by
    unfold fz at f
    unfold Dt at h ⊢
    obtain ⟨a, xs, e1, e2, e3⟩ := h
    exact ⟨a, xs, e1, e _ _ e2, DtAll.ts e ds xs f e3⟩
  | .dict _, _, f, h => by
    unfold fz at f
    cases f
theorem DtAll.ts {H H' : Hp} (e : Ts H H') : ∀ (ds : List PyData) (xs : List V), fzAll ds = true → DtAll H xs ds → DtAll H' xs ds
  | [], _, _, h => by
    unfold DtAll at h ⊢
    exact h
  | d :: ds, _, f, h => by
    unfold fzAll at f
    rw [Bool.and_eq_true] at f
    unfold DtAll at h ⊢
    obtain ⟨v, vs, e1, e2, e3⟩ := h
    exact ⟨v, vs, e1, Dt.ts e d v f.1 e2, DtAll.ts e ds vs f.2 e3⟩
end
theorem fzAll_iff : ∀ {ds : List PyData}, fzAll ds = true ↔ ∀ d ∈ ds, fz d = true
  | [] => by simp [fzAll]
  | d :: ds => by simp [fzAll, fzAll_iff (ds := ds)]
theorem fzAll_map {α : Type} {f : α → PyData} (h : ∀ a, fz (f a) = true) (l : List α) : fzAll (l.map f) = true := fzAll_iff.mpr fun d hd => by
  obtain ⟨a, _, rfl⟩ := List.mem_map.mp hd
  exact h a
theorem dt_int {H : Hp} (i : Int) : Dt H (.int i) (.int i) := by unfold Dt; rfl
theorem dt_str {H : Hp} (x : Str) : Dt H (.str x) (.str x) := by unfold Dt; rfl
theorem dt_bool {H : Hp} (b : Bool) : Dt H (.bl b) (.bool b) := by unfold Dt; rfl
theorem dt_none {H : Hp} : Dt H .non .none := by unfold Dt; rfl
theorem dt_list {H : Hp} {a : Addr} {xs : List V} {ds : List PyData} (h : H a = some (.lst xs)) (k : DtAll H xs ds) : Dt H (.ref a) (.list ds) := by
  unfold Dt
  exact ⟨a, xs, rfl, h, k⟩
theorem dt_tup {H : Hp} {a : Addr} {xs : List V} {ds : List PyData} (h : H a = some (.tup xs)) (k : DtAll H xs ds) : Dt H (.ref a) (.tuple ds) := by
  unfold Dt
  exact ⟨a, xs, rfl, h, k⟩
theorem da_nil {H : Hp} : DtAll H [] [] := by unfold DtAll; rfl
theorem da_cons {H : Hp} {v : V} {vs : List V} {d : PyData} {ds : List PyData} (h : Dt H v d) (k : DtAll H vs ds) : DtAll H (v :: vs) (d :: ds) := by
  unfold DtAll
  exact ⟨v, vs, rfl, h, k⟩
theorem da_app {H : Hp} : ∀ {ds es : List PyData} {xs ys : List V}, DtAll H xs ds → DtAll H ys es → DtAll H (xs ++ ys) (ds ++ es)
  | [], es, xs, ys, h, k => by
    unfold DtAll at h
    subst h
    exact k
  | d :: ds, es, xs, ys, h, k => by
    unfold DtAll at h
    obtain ⟨v, vs, rfl, h1, h2⟩ := h
    exact da_cons h1 (da_app h2 k)
theorem da_len {H : Hp} : ∀ {ds : List PyData} {xs : List V}, DtAll H xs ds → xs.length = ds.length
  | [], xs, h => by
    unfold DtAll at h
    subst h
    rfl
  | d :: ds, xs, h => by
    unfold DtAll at h
    obtain ⟨v, vs, rfl, h1, h2⟩ := h
    rw [List.length_cons, List.length_cons, da_len h2]
theorem da_get {H : Hp} : ∀ {ds : List PyData} {xs : List V} {i : Nat} {d : PyData}, DtAll H xs ds → ds[i]? = some d → ∃ v, xs[i]? = some v ∧ Dt H v d
  | [], _, _, _, _, e => by simp at e
  | d :: ds, xs, 0, d', h, e => by
    unfold DtAll at h
    obtain ⟨v, vs, rfl, h1, h2⟩ := h
    simp at e
    subst e
    exact ⟨v, rfl, h1⟩
  | d :: ds, xs, i + 1, d', h, e => by
    unfold DtAll at h
    obtain ⟨v, vs, rfl, h1, h2⟩ := h
    obtain ⟨u, e1, e2⟩ := da_get (i := i) h2 (by simpa using e)
    exact ⟨u, by simpa using e1, e2⟩
theorem da_dropLast {H : Hp} : ∀ {ds : List PyData} {xs : List V}, DtAll H xs ds → DtAll H xs.dropLast ds.dropLast
  | [], xs, h => by
    unfold DtAll at h
    subst h
    exact da_nil
  | [d], xs, h => by
    unfold DtAll at h
    obtain ⟨v, vs, rfl, h1, h2⟩ := h
    unfold DtAll at h2
    subst h2
    exact da_nil
  | d :: d' :: ds, xs, h => by
    unfold DtAll at h
    obtain ⟨v, vs, rfl, h1, h2⟩ := h
    have h3 := da_dropLast h2
    have l := da_len h2
    cases vs with
    | nil => simp at l
    | cons u us => exact da_cons h1 h3
theorem da_snoc {H : Hp} : ∀ {ds : List PyData} {d : PyData} {xs : List V}, DtAll H xs (ds ++ [d]) → ∃ ys v, xs = ys ++ [v] ∧ DtAll H ys ds ∧ Dt H v d
  | [], d, xs, h => by
    rw [List.nil_append] at h
    unfold DtAll at h
    obtain ⟨v, vs, rfl, h1, h2⟩ := h
    unfold DtAll at h2
    subst h2
    exact ⟨[], v, rfl, da_nil, h1⟩
  | e :: ds, d, xs, h => by
    rw [List.cons_append] at h
    unfold DtAll at h
    obtain ⟨v, vs, rfl, h1, h2⟩ := h
    obtain ⟨ys, u, rfl, h3, h4⟩ := da_snoc h2
    exact ⟨v :: ys, u, rfl, da_cons h1 h3, h4⟩
theorem da_ints {H : Hp} : ∀ (ns : List Int), DtAll H (ns.map V.int) (ns.map PyData.int)
  | [] => da_nil
  | n :: ns => da_cons (dt_int n) (da_ints ns)

mutual
/-- how deep data go -/
def dep : PyData → Nat
  | .list ds => depAll ds + 1
  | .tuple ds => depAll ds + 1
  | _ => 0
def depAll : List PyData → Nat
  | [] => 0
  | d :: ds => max (dep d) (depAll ds)
end
theorem dep_get : ∀ {ds : List PyData} {i : Nat} {d : PyData}, ds[i]? = some d → dep d ≤ depAll ds
  | [], _, _, e => by simp at e
  | d :: ds, 0, d', e => by
    simp at e
    subst e
    unfold depAll
    exact Nat.le_max_left _ _
  | d :: ds, i + 1, d', e => by
    have h := dep_get (ds := ds) (i := i) (d := d') (by simpa using e)
    unfold depAll
    exact Nat.le_trans h (Nat.le_max_right _ _)

theorem sz_small {n : Nat} (h : n ≤ 16000000) : n ≤ sizeLine := Nat.le_trans h (by decide)
theorem sz_less {n : Nat} (h : n ≤ 16000000) : n < sizeLine := Nat.lt_of_le_of_lt h (by decide)

/-! ### tests -/
theorem iteD {p A B : Prop} [Decidable p] (h1 : p → A) (h2 : ¬ p → B) : if decide p = true then A else B := by
  by_cases h : p
  · rw [decide_eq_true h]
    exact iteT (h1 h)
  · rw [decide_eq_false h]
    exact iteF (h2 h)
theorem iteDn {p A B : Prop} [Decidable p] (h1 : ¬ p → A) (h2 : p → B) : if (!decide p) = true then A else B := by
  by_cases h : p
  · rw [decide_eq_true h]
    exact iteF (h2 h)
  · rw [decide_eq_false h]
    exact iteT (h1 h)
theorem iteI {i j : Int} {A B : Prop} (h1 : i = j → A) (h2 : i ≠ j → B) : if decide (V.int i = V.int j) = true then A else B :=
  iteD (fun e => h1 (V.int.inj e)) fun e => h2 fun z => e (congrArg V.int z)
theorem iteIn {i j : Int} {A B : Prop} (h1 : i ≠ j → A) (h2 : i = j → B) : if (!decide (V.int i = V.int j)) = true then A else B :=
  iteDn (fun e => h1 fun z => e (congrArg V.int z)) fun e => h2 (V.int.inj e)
theorem iteS {i j : Str} {A B : Prop} (h1 : i = j → A) (h2 : i ≠ j → B) : if decide (V.str i = V.str j) = true then A else B :=
  iteD (fun e => h1 (V.str.inj e)) fun e => h2 fun z => e (congrArg V.str z)
theorem iteSn {i j : Str} {A B : Prop} (h1 : i ≠ j → A) (h2 : i = j → B) : if (!decide (V.str i = V.str j)) = true then A else B :=
  iteDn (fun e => h1 fun z => e (congrArg V.str z)) fun e => h2 (V.str.inj e)
theorem dec_eqS {i j : Str} : decide (V.str i = V.str j) = decide (i = j) := by
  by_cases e : i = j
  · subst e; simp
  · rw [decide_eq_false e]; exact decide_eq_false fun z => e (V.str.inj z)
theorem dec_eqI {i j : Int} : decide (V.int i = V.int j) = decide (i = j) := by
  by_cases e : i = j
  · subst e; simp
  · rw [decide_eq_false e]; exact decide_eq_false fun z => e (V.int.inj z)
/-- a sign -/
abbrev sg (c : Nat) : Str := ⟨#[c]⟩
theorem sg_inj {c d : Nat} (h : sg c = sg d) : c = d := by
  have h2 : tl (sg c) = tl (sg d) := congrArg tl h
  have h3 : [c] = [d] := h2
  simpa using h3
theorem sg_eq {c d : Nat} {s : Str} (hs : s = sg d) : sg c = s ↔ c = d := by
  subst hs
  exact ⟨sg_inj, fun e => by rw [e]⟩
abbrev str (l : List Nat) : Str := ⟨l.toArray⟩
theorem str_tl (x : Str) : str (tl x) = x := mk_tl x
theorem tl_str (l : List Nat) : tl (str l) = l := rfl
theorem str_len (l : List Nat) : (str l).length = l.length := by rw [len_tl, tl_str]
theorem str_app (l m : List Nat) : str l ++ str m = str (l ++ m) := ext_tl (by rw [tl_append])
theorem str_inj {l m : List Nat} (h : str l = str m) : l = m := by
  have h2 : tl (str l) = tl (str m) := congrArg tl h
  exact h2
theorem map_get {α : Type} {f : α → V} {ms : List α} {i : Nat} {x : V} (h : (ms.map f)[i]? = some x) : ∃ v, x = f v ∧ ms[i]? = some v := by
  rw [List.getElem?_map] at h
  cases e : ms[i]? with
  | none => rw [e] at h; cases h
  | some v =>
    rw [e] at h
    exact ⟨v, (Option.some.inj h).symm, rfl⟩
theorem atI_map {α : Type} {f : α → V} {ms : List α} {i : Int} (h0 : 0 ≤ i) (h : i < ms.length) : ∃ v, ms[i.toNat]? = some v ∧ atI (ms.map f) i = some (f v) := by
  obtain ⟨n, rfl⟩ : ∃ n : Nat, i = (n : Int) := ⟨i.toNat, by omega⟩
  have hn : n < ms.length := by omega
  refine ⟨ms[n], by simp [hn], atI_nat ?_⟩
  rw [List.getElem?_map, List.getElem?_eq_getElem hn]
  rfl
theorem cut_take {xs : List V} (k : Nat) : cutV xs none (some (k : Int)) = xs.take k := by
  unfold cutV
  rw [HT.sIx_none, HT.sIx_nat, List.drop_zero, Nat.sub_zero]
  by_cases h : k ≤ xs.length
  · rw [Nat.min_eq_left h]
  · rw [Nat.min_eq_right (by omega), List.take_of_length_le (Nat.le_refl _), List.take_of_length_le (by omega)]
theorem cut_drop {xs : List V} (k : Nat) : cutV xs (some (k : Int)) none = xs.drop k := by
  unfold cutV
  rw [HT.sIx_none, HT.sIx_nat]
  by_cases h : k ≤ xs.length
  · rw [Nat.min_eq_left h, List.take_of_length_le (by simp)]
  · rw [Nat.min_eq_right (by omega), Nat.sub_self, List.drop_of_length_le (by omega), List.drop_of_length_le (by omega)]
    rfl
theorem cutS_nat {z : Str} {a b : Nat} : cutS z (some (a : Int)) (some (b : Int)) = str (((tl z).drop a).take (b - a)) := by
  show str (((tl z).drop (HT.sIx z.length 0 (some (a : Int)))).take (HT.sIx z.length z.length (some (b : Int)) - HT.sIx z.length 0 (some (a : Int)))) = _
  rw [HT.sIx_nat, HT.sIx_nat, len_tl]
  by_cases ha : a ≤ (tl z).length
  · rw [show min a (tl z).length = a by omega]
    by_cases h : b ≤ (tl z).length
    · rw [show min b (tl z).length = b by omega]
    · rw [show min b (tl z).length = (tl z).length by omega, List.take_of_length_le (by rw [List.length_drop]; omega), List.take_of_length_le (by rw [List.length_drop]; omega)]
  · rw [show min a (tl z).length = (tl z).length by omega]
    conv => rhs; rw [List.drop_of_length_le (by omega), List.take_nil]
    rw [List.drop_of_length_le (Nat.le_refl _), List.take_nil]
theorem atI_tl {x : Str} {i : Nat} {c : Nat} (h : (tl x)[i]? = some c) : atI x.cps.toList ((i : Nat) : Int) = some c := atI_nat h
theorem atI_lt {α : Type} {xs : List α} {i : Int} (h0 : 0 ≤ i) (h : i < xs.length) : atI xs i = some (xs[i.toNat]'(by omega)) := by
  obtain ⟨n, rfl⟩ : ∃ n : Nat, i = (n : Int) := ⟨i.toNat, by omega⟩
  have hn : n < xs.length := by omega
  have e := atI_nat (j := n) (List.getElem?_eq_getElem hn)
  simpa using e
theorem ixN_0 {n : Nat} (h : 0 < n) : ixN n 0 = some 0 := Evl.ixN_nat (j := 0) h
theorem ixN_1 {n : Nat} (h : 1 < n) : ixN n 1 = some 1 := Evl.ixN_nat (j := 1) h
theorem ixN_2 {n : Nat} (h : 2 < n) : ixN n 2 = some 2 := Evl.ixN_nat (j := 2) h
/-! ### steps by the head of a reading -/
section
variable {σ : L2.St} {H : Hp} {Q : VK} {D : Ends} {v : V} {te ta tb : TE} {t u c : TT} {t1 t2 t3 : TS} {g : TG} {i : Nat} {a b : Bool} {x y : Str} {k l : Int}
theorem go_c (q : Q v H) : tC v σ H Q := q
theorem go_nil {Q : List V → Hp → Prop} (q : Q [] H) : tNil σ H Q := q
theorem go_cons {tr : TA} {Q : List V → Hp → Prop} (q : te σ H fun x H1 => tr σ H1 fun xs H2 => Q (x :: xs) H2) : tCons te tr σ H Q := q
theorem go_call {sp : Sp} {dvs : List V} {E : XK} {tr : TA} (q : tr σ H fun vs H1 => sp (vs ++ dvs) H1 Q E) : tCall sp dvs E tr σ H Q := q
theorem go_cb {r : List V → Hp → VK → Prop} {tr : TA} (q : tr σ H fun vs H1 => r vs H1 Q) : tCB r tr σ H Q := q
theorem go_next (q : D.nx σ H) : tNext D σ H := q
theorem go_cont (q : D.ct σ H) : tCont D σ H := q
theorem go_brk (q : D.bk σ H) : tBreak D σ H := q
theorem go_name {Q : L2.St → Hp → Prop} (q : Q (σ.set i (some v)) H) : gName i v σ H Q := q
theorem go_seq (q : t1 { D with nx := t2 D } σ H) : tSeq t1 t2 D σ H := q
theorem go_asg (q : te σ H fun x H1 => g x σ H1 D.nx) : tAsg te g D σ H := q
theorem go_if (h : Ans c σ H a) (h1 : a = true → t1 D σ H) (h2 : a = false → t2 D σ H) : tIfS c t1 t2 D σ H := by
  cases a with
  | true => exact st_yes h (h1 rfl)
  | false => exact st_no h (h2 rfl)
theorem go_ifOr (h : Ans (tOr t u) σ H a) (h1 : a = true → t1 D σ H) (h2 : a = false → t2 D σ H) : tIfS (tOr t u) t1 t2 D σ H := go_if h h1 h2
theorem go_ifAnd (h : Ans (tAnd t u) σ H a) (h1 : a = true → t1 D σ H) (h2 : a = false → t2 D σ H) : tIfS (tAnd t u) t1 t2 D σ H := go_if h h1 h2
theorem go_or (h : Val (tOrV ta tb) σ H v) (q : Q v H) : tOrV ta tb σ H Q := h Q q
theorem go_and (h : Val (tAndV ta tb) σ H v) (q : Q v H) : tAndV ta tb σ H Q := h Q q
theorem go_not (h : Val (tNotV ta) σ H v) (q : Q v H) : tNotV ta σ H Q := h Q q
theorem go_ifE (h : Val (tIf t ta tb) σ H v) (q : Q v H) : tIf t ta tb σ H Q := h Q q
theorem val_orV (ha : Val ta σ H (.bl a)) (hb : Val tb σ H (.bl b)) : Val (tOrV ta tb) σ H (.bl (a || b)) := fun Q q => ha _ ⟨a, rfl, by
  cases a with
  | true => exact q
  | false => exact hb Q q⟩
theorem val_andV (ha : Val ta σ H (.bl a)) (hb : Val tb σ H (.bl b)) : Val (tAndV ta tb) σ H (.bl (a && b)) := fun Q q => ha _ ⟨a, rfl, by
  cases a with
  | true => exact hb Q q
  | false => exact q⟩
theorem val_notV (ha : Val ta σ H (.bl a)) : Val (tNotV ta) σ H (.bl (!a)) := fun Q q => ha _ ⟨a, rfl, q⟩
theorem val_ifS (h : Ans t σ H a) (ha : Val ta σ H (.str x)) (hb : Val tb σ H (.str y)) : Val (tIf t ta tb) σ H (.str (if a = true then x else y)) := fun Q q => h _ (by
  cases a with
  | true => exact ha Q q
  | false => exact hb Q q)
theorem val_ifI (h : Ans t σ H a) (ha : Val ta σ H (.int k)) (hb : Val tb σ H (.int l)) : Val (tIf t ta tb) σ H (.int (if a = true then k else l)) := fun Q q => h _ (by
  cases a with
  | true => exact ha Q q
  | false => exact hb Q q)
theorem val_ifB {p q : Bool} (h : Ans t σ H a) (ha : Val ta σ H (.bl p)) (hb : Val tb σ H (.bl q)) : Val (tIf t ta tb) σ H (.bl (if a = true then p else q)) := fun Q q => h _ (by
  cases a with
  | true => exact ha Q q
  | false => exact hb Q q)
theorem val_eqS (ha : Val ta σ H (.str x)) (hb : Val tb σ H (.str y)) : Val (tOp rEq ta tb) σ H (.bl (decide (x = y))) := fun Q q => ha _ (hb _ ⟨rfl, by rw [dec_eqS]; exact q⟩)
theorem val_eqI (ha : Val ta σ H (.int k)) (hb : Val tb σ H (.int l)) : Val (tOp rEq ta tb) σ H (.bl (decide (k = l))) := fun Q q => ha _ (hb _ ⟨rfl, by rw [dec_eqI]; exact q⟩)
theorem val_neS (ha : Val ta σ H (.str x)) (hb : Val tb σ H (.str y)) : Val (tOp rNe ta tb) σ H (.bl (!decide (x = y))) := fun Q q => ha _ (hb _ ⟨rfl, by rw [dec_eqS]; exact q⟩)
theorem val_neI (ha : Val ta σ H (.int k)) (hb : Val tb σ H (.int l)) : Val (tOp rNe ta tb) σ H (.bl (!decide (k = l))) := fun Q q => ha _ (hb _ ⟨rfl, by rw [dec_eqI]; exact q⟩)
theorem ans_test (h : Val te σ H (.bl a)) : Ans (tTest te) σ H a := fun Q q => h _ ⟨a, rfl, q⟩
theorem ans_or2 (h1 : Ans t σ H a) (h2 : Ans u σ H b) : Ans (tOr t u) σ H (a || b) := fun Q q => h1 _ (by
  cases a with
  | true => exact q
  | false => exact h2 Q q)
end
/-- a loop over the signs of a text -/
theorem for_str {z : Str} {g : TG} {tb : TS} {D : Ends} {σ : L2.St} {H : Hp} (Pv : Nat → L2.St → Hp → Prop) (h0 : Pv 0 σ H)
    (hs : ∀ (i c : Nat) σ H, (tl z)[i]? = some c → Pv i σ H → g (.str (sg c)) σ H fun σ2 H2 => tb { D with nx := Pv (i + 1), ct := Pv (i + 1), bk := D.nx } σ2 H2) (hd : ∀ σ H, Pv (tl z).length σ H → D.nx σ H) :
    ∃ W : Nat → Nat → L2.St → Hp → Prop, (∃ m, W 0 m σ H) ∧ ∀ i m σ H, W i m σ H →
      ((Its z).stop i H ∧ D.nx σ H) ∨ ((Its z).go i H ∧ ∃ N : L2.St → Hp → Prop, (∀ σ' H', N σ' H' → ∃ m', m' < m ∧ W (i + 1) m' σ' H') ∧ ∀ x H', (Its z).yld i H x H' → g x σ H' fun σ2 H2 => tb { D with nx := N, ct := N, bk := D.nx } σ2 H2) := by
  have el : (tl z).length = z.cps.size := by simp
  refine ⟨fun i m σ H => m = (tl z).length - i ∧ i ≤ (tl z).length ∧ Pv i σ H, ⟨(tl z).length, rfl, Nat.zero_le _, h0⟩, ?_⟩
  rintro i m σ H ⟨rfl, hi, p⟩
  by_cases hlt : i < (tl z).length
  · refine .inr ⟨(show i < z.cps.size by omega), Pv (i + 1), fun σ' H' p' => ⟨(tl z).length - (i + 1), by omega, rfl, hlt, p'⟩, fun x H' y => ?_⟩
    obtain ⟨rfl, c, hc, rfl⟩ := y
    exact hs i c σ _ (by rw [← hc]; simp) p
  · have e : i = (tl z).length := by omega
    subst e
    exact .inl ⟨Nat.le_of_eq el.symm, hd σ H p⟩
end LW
set_option Elab.async false
set_option linter.all false
/-! The plain law of k00: a walk over lines by spans and a walk sign by sign give the same tokens. -/
namespace K00

/-- the kinds of tokens -/
inductive Kd where
  | name | number | sign | wrong
  deriving DecidableEq

structure Tk where
  line : Int
  col : Int
  kind : Kd
  word : List Nat
  deriving DecidableEq

/-- the classes of signs -/
structure Cls where
  sm : Nat → Bool
  fg : Nat → Bool
  sg : Nat → Bool

/-- what the last token was, for the next sign -/
inductive Gl where
  | no | name | number | sign | wrong | dash
  deriving DecidableEq

structure S where
  line : Int
  col : Int
  glue : Gl
  rem : Bool
  found : List Tk

variable (C : Cls)

def kindOf (c : Nat) : Kd := if C.sm c then .name else if C.fg c then .number else if C.sg c then .sign else .wrong
def glueOf (c : Nat) : Gl := if c = 45 then .dash else match kindOf C c with
  | .name => .name
  | .number => .number
  | .sign => .sign
  | .wrong => .wrong

def joins (g : Gl) (c : Nat) : Bool :=
  (decide (g = .name) && (C.sm c || C.fg c)) || (decide (g = .number) && C.fg c) || (decide (g = .dash) && decide (c = 62))

def addTo (t : Tk) (c : Nat) : Tk := { t with word := t.word ++ [c] }

/-- the own walk of the law, one sign -/
def step (s : S) (c : Nat) : S :=
  if c = 10 then { s with line := s.line + 1, col := 0, glue := .no, rem := false }
  else if s.rem || decide (c = 32) || decide (c = 35) then { s with col := s.col + 1, glue := .no, rem := s.rem || decide (c = 35) }
  else if joins C s.glue c then
    { s with col := s.col + 1, glue := if c = 62 then .sign else s.glue,
             found := s.found.dropLast ++ (s.found.getLast?.toList.map fun t => addTo t c) }
  else { s with col := s.col + 1, glue := glueOf C c, found := s.found ++ [⟨s.line, s.col + 1, kindOf C c, [c]⟩] }

def walk (s : S) (l : List Nat) : S := l.foldl (step C) s

def lawToks (l : List Nat) : List Tk := (walk C ⟨1, 0, .no, false, []⟩ l).found

/-- the span of signs that p lets -/
def span (p : Nat → Bool) : List Nat → List Nat × List Nat
  | [] => ([], [])
  | c :: r => if p c then (c :: (span p r).1, (span p r).2) else ([], c :: r)

theorem span_len (p : Nat → Bool) : ∀ l, (span p l).1.length + (span p l).2.length = l.length
  | [] => rfl
  | c :: r => by
    have ih := span_len p r
    unfold span
    split
    · simp only [List.length_cons]; omega
    · simp
theorem span_app (p : Nat → Bool) : ∀ l, (span p l).1 ++ (span p l).2 = l
  | [] => rfl
  | c :: r => by
    have ih := span_app p r
    unfold span
    split
    · show c :: ((span p r).1 ++ (span p r).2) = c :: r
      rw [ih]
    · rfl
theorem span_head (p : Nat → Bool) : ∀ l, (span p l).2 = [] ∨ ∃ c r, (span p l).2 = c :: r ∧ p c = false
  | [] => .inl rfl
  | c :: r => by
    have ih := span_head p r
    unfold span
    split
    · exact ih
    · rename_i h
      exact .inr ⟨c, r, rfl, by simpa using h⟩

/-- the tokens of a line from a place on (n: the line's number, k: the place) -/
def lt (n : Int) : Int → Nat → List Nat → List Tk
  | _, 0, _ => []
  | _, _, [] => []
  | k, f + 1, c :: r =>
    if c = 35 then []
    else if c = 32 then lt n (k + 1) f r
    else if C.sm c then ⟨n, k + 1, .name, c :: (span (fun c => C.sm c || C.fg c) r).1⟩ :: lt n (k + 1 + (span (fun c => C.sm c || C.fg c) r).1.length) f (span (fun c => C.sm c || C.fg c) r).2
    else if C.fg c then ⟨n, k + 1, .number, c :: (span C.fg r).1⟩ :: lt n (k + 1 + (span C.fg r).1.length) f (span C.fg r).2
    else if c = 45 then match r with
      | 62 :: r' => ⟨n, k + 1, .sign, [45, 62]⟩ :: lt n (k + 2) f r'
      | r => ⟨n, k + 1, kindOf C c, [c]⟩ :: lt n (k + 1) f r
    else ⟨n, k + 1, kindOf C c, [c]⟩ :: lt n (k + 1) f r

theorem lt_fuel (n : Int) : ∀ (f : Nat) (g : Nat) (k : Int) (l : List Nat), l.length ≤ f → l.length ≤ g → lt C n k f l = lt C n k g l
  | 0, g, k, l, h, _ => by
    have e : l = [] := List.length_eq_zero_iff.mp (by omega)
    subst e
    cases g <;> rfl
  | f + 1, 0, k, l, _, h => by
    have e : l = [] := List.length_eq_zero_iff.mp (by omega)
    subst e
    rfl
  | f + 1, g + 1, k, [], _, _ => rfl
  | f + 1, g + 1, k, c :: r, h, h' => by
    simp only [List.length_cons] at h h'
    have s1 := span_len (fun c => C.sm c || C.fg c) r
    have s2 := span_len C.fg r
    have ih := fun k l h h' => lt_fuel n f g k l h h'
    unfold lt
    split
    · rfl
    split
    · exact ih _ _ (by omega) (by omega)
    split
    · rw [ih _ _ (by omega) (by omega)]
    split
    · rw [ih _ _ (by omega) (by omega)]
    split
    · split
      · simp only [List.length_cons] at h h'
        rw [ih _ _ (by omega) (by omega)]
      · rw [ih _ _ (by omega) (by omega)]
    · rw [ih _ _ (by omega) (by omega)]

/-- the tokens of a line from the place k on, rest l -/
def lineT (n k : Int) (l : List Nat) : List Tk := lt C n k l.length l

/-- what the classes must be -/
structure Ok : Prop where
  dis : ∀ c, C.sm c = true → C.fg c = false
  nl : C.sm 10 = false ∧ C.fg 10 = false
  sp : C.sm 32 = false ∧ C.fg 32 = false
  hs : C.sm 35 = false ∧ C.fg 35 = false
  da : C.sm 45 = false ∧ C.fg 45 = false ∧ C.sg 45 = true
  gt : C.sm 62 = false ∧ C.fg 62 = false

theorem walk_nil (s : S) : walk C s [] = s := rfl
theorem walk_cons (s : S) (c : Nat) (l : List Nat) : walk C s (c :: l) = walk C (step C s c) l := rfl
theorem walk_app (s : S) (l m : List Nat) : walk C s (l ++ m) = walk C (walk C s l) m := List.foldl_append

/-- the rest of a line behind a remark -/
theorem walk_rem : ∀ (l : List Nat) (s : S), 10 ∉ l → s.rem = true → walk C s l = { s with col := s.col + l.length, glue := if l = [] then s.glue else .no }
  | [], s, _, _ => by simp [walk]
  | c :: r, s, h, hr => by
    have h1 : ¬ c = 10 := fun e => h (by simp [e])
    have h2 : 10 ∉ r := fun e => h (by simp [e])
    rw [walk_cons]
    have es : step C s c = { s with col := s.col + 1, glue := .no, rem := true } := by
      unfold step
      rw [if_neg h1, hr]
      simp
    rw [es, walk_rem r _ h2 rfl]
    cases s
    simp only at hr
    subst hr
    simp only [List.length_cons, reduceCtorEq, if_false]
    congr 1
    · omega
    · split <;> rfl

/-- glue that does not join the next sign counts for nothing -/
theorem found_glue (s : S) (g : Gl) (l : List Nat) (h : l = [] ∨ ∃ c r, l = c :: r ∧ joins C s.glue c = false ∧ joins C g c = false) : (walk C s l).found = (walk C { s with glue := g } l).found := by
  rcases h with rfl | ⟨c, r, rfl, h1, h2⟩
  · rfl
  · rw [walk_cons, walk_cons]
    have e : step C s c = step C { s with glue := g } c := by
      unfold step
      dsimp only
      rw [h1, h2]
      split
      · rfl
      split
      · rfl
      · rfl
    rw [e]

theorem joins_no (c : Nat) : joins C .no c = false := by simp [joins]
theorem joins_sign (c : Nat) : joins C .sign c = false := by simp [joins]
theorem joins_wrong (c : Nat) : joins C .wrong c = false := by simp [joins]

/-- a run of a name or a number -/
theorem walk_run (g : Gl) (p : Nat → Bool) (hp : ∀ c, joins C g c = p c) (ok : ∀ c, p c = true → c ≠ 10 ∧ c ≠ 32 ∧ c ≠ 35 ∧ c ≠ 62) :
    ∀ (l : List Nat) (s : S) (acc : List Tk) (t : Tk), s.glue = g → s.rem = false → s.found = acc ++ [t] →
      walk C s l = walk C { s with col := s.col + (span p l).1.length, found := acc ++ [{ t with word := t.word ++ (span p l).1 }] } (span p l).2
  | [], s, acc, t, hg, hr, hf => by
    simp [span, walk, ← hf]
  | c :: r, s, acc, t, hg, hr, hf => by
    unfold span
    split
    · rename_i hc
      obtain ⟨n1, n2, n3, n4⟩ := ok c hc
      rw [walk_cons]
      have es : step C s c = { s with col := s.col + 1, found := acc ++ [addTo t c] } := by
        unfold step
        rw [if_neg n1, hr, if_neg (by simp [n2, n3]), hg, hp c, if_pos hc, if_neg n4, hf]
        cases s
        simp_all
      rw [es, walk_run g p hp ok r { s with col := s.col + 1, found := acc ++ [addTo t c] } acc (addTo t c) hg hr rfl]
      simp only [addTo, List.length_cons, List.append_assoc, List.singleton_append]
      congr 2
      omega
    · simp [← hf]

/-- one line, sign by sign: just the tokens by spans -/
theorem walk_line (ok : Ok C) : ∀ (f : Nat) (l : List Nat) (s : S), l.length ≤ f → 10 ∉ l → s.rem = false → s.glue = .no → (walk C s l).found = s.found ++ lt C s.line s.col f l
  | 0, l, s, h, _, _, _ => by
    have e : l = [] := List.length_eq_zero_iff.mp (by omega)
    subst e
    simp [walk, lt]
  | f + 1, [], s, _, _, _, _ => by simp [walk, lt]
  | f + 1, c :: r, s, h, hn, hr, hg => by
    have ih := fun l s => walk_line ok f l s
    have h1 : ¬ c = 10 := fun e => hn (by simp [e])
    have h2 : 10 ∉ r := fun e => hn (by simp [e])
    simp only [List.length_cons] at h
    unfold lt
    split
    · -- a remark
      rename_i e
      subst e
      rw [walk_cons]
      have es : step C s 35 = { s with col := s.col + 1, glue := .no, rem := true } := by
        unfold step
        rw [if_neg (by decide), hr]
        simp
      rw [es, walk_rem C r _ h2 rfl]
      simp
    split
    · -- a blank
      rename_i e
      subst e
      rw [walk_cons]
      have es : step C s 32 = { s with col := s.col + 1, glue := .no, rem := false } := by
        unfold step
        rw [if_neg (by decide), hr]
        simp
      rw [es, ih r _ (by omega) h2 rfl rfl]
    rename_i n3 n2
    have es : step C s c = { s with col := s.col + 1, glue := glueOf C c, found := s.found ++ [⟨s.line, s.col + 1, kindOf C c, [c]⟩] } := by
      unfold step
      rw [if_neg h1, hr, if_neg (by simp [n2, n3]), hg, joins_no]
      simp only [Bool.false_eq_true, if_false]
    split
    · -- a name
      rename_i hs
      have hk : kindOf C c = .name := by simp [kindOf, hs]
      have n4 : ¬ c = 45 := fun e => by rw [e, ok.da.1] at hs; cases hs
      have hgl : glueOf C c = .name := by simp [glueOf, n4, hk]
      rw [walk_cons, es, hk, hgl]
      rw [walk_run C .name (fun c => C.sm c || C.fg c) (by intro c; simp [joins]) (by
        intro d hd
        refine ⟨?_, ?_, ?_, ?_⟩ <;> rintro rfl
        · simp [ok.nl] at hd
        · simp [ok.sp] at hd
        · simp [ok.hs] at hd
        · simp [ok.gt] at hd) r { s with col := s.col + 1, glue := .name, found := s.found ++ [⟨s.line, s.col + 1, .name, [c]⟩] } s.found ⟨s.line, s.col + 1, .name, [c]⟩ rfl hr rfl]
      rw [found_glue C _ .no _ (by
        rcases span_head (fun c => C.sm c || C.fg c) r with e | ⟨d, q, e, hd⟩
        · exact .inl e
        · refine .inr ⟨d, q, e, ?_, joins_no C d⟩
          simpa [joins] using hd)]
      have sl := span_len (fun c => C.sm c || C.fg c) r
      have sa := span_app (fun c => C.sm c || C.fg c) r
      refine (ih _ ⟨_, _, _, _, _⟩ ?_ ?_ ?_ rfl).trans ?_
      · omega
      · exact (fun m => h2 (by rw [← sa]; exact List.mem_append_right _ m))
      · exact hr
      simp
    split
    · -- a number
      rename_i hs hd
      have hk : kindOf C c = .number := by simp [kindOf, hs, hd]
      have n4 : ¬ c = 45 := fun e => by rw [e, ok.da.2.1] at hd; cases hd
      have hgl : glueOf C c = .number := by simp [glueOf, n4, hk]
      rw [walk_cons, es, hk, hgl]
      rw [walk_run C .number C.fg (by intro c; simp [joins]) (by
        intro d hd
        refine ⟨?_, ?_, ?_, ?_⟩ <;> rintro rfl
        · simp [ok.nl] at hd
        · simp [ok.sp] at hd
        · simp [ok.hs] at hd
        · simp [ok.gt] at hd) r { s with col := s.col + 1, glue := .number, found := s.found ++ [⟨s.line, s.col + 1, .number, [c]⟩] } s.found ⟨s.line, s.col + 1, .number, [c]⟩ rfl hr rfl]
      rw [found_glue C _ .no _ (by
        rcases span_head C.fg r with e | ⟨d, q, e, hd⟩
        · exact .inl e
        · refine .inr ⟨d, q, e, ?_, joins_no C d⟩
          simpa [joins] using hd)]
      have sl := span_len C.fg r
      have sa := span_app C.fg r
      refine (ih _ ⟨_, _, _, _, _⟩ ?_ ?_ ?_ rfl).trans ?_
      · omega
      · exact (fun m => h2 (by rw [← sa]; exact List.mem_append_right _ m))
      · exact hr
      simp
    rename_i hs hd
    have hk : kindOf C c = .sign ∨ kindOf C c = .wrong := by
      unfold kindOf
      rw [if_neg hs, if_neg hd]
      split
      · exact .inl rfl
      · exact .inr rfl
    split
    · -- a dash
      rename_i e
      subst e
      have hk : kindOf C 45 = .sign := by simp [kindOf, ok.da]
      have hgl : glueOf C 45 = .dash := by simp [glueOf]
      rw [walk_cons, es, hk, hgl]
      split
      · rename_i r'
        rw [walk_cons]
        have es2 : step C { s with col := s.col + 1, glue := .dash, found := s.found ++ [⟨s.line, s.col + 1, .sign, [45]⟩] } 62 =
            { s with col := s.col + 2, glue := .sign, found := s.found ++ [⟨s.line, s.col + 1, .sign, [45, 62]⟩] } := by
          unfold step
          dsimp only
          rw [if_neg (by decide), hr, if_neg (by decide), if_pos (by simp [joins])]
          simp [addTo, Int.add_assoc]
        rw [es2, found_glue C _ .no _ (by
          cases r' with
          | nil => exact .inl rfl
          | cons d q => exact .inr ⟨d, q, rfl, joins_sign C d, joins_no C d⟩)]
        simp only [List.length_cons] at h
        refine (ih _ ⟨_, _, _, _, _⟩ ?_ ?_ ?_ rfl).trans ?_
        · omega
        · exact (fun m => h2 (by simp [m]))
        · exact hr
        simp
      · rename_i hx
        rw [found_glue C _ .no _ (by
          cases r with
          | nil => exact .inl rfl
          | cons d q =>
            refine .inr ⟨d, q, rfl, ?_, joins_no C d⟩
            have : ¬ d = 62 := fun e => hx q (by rw [e])
            simp [joins, this])]
        refine (ih _ ⟨_, _, _, _, _⟩ ?_ ?_ ?_ rfl).trans ?_
        · omega
        · exact h2
        · exact hr
        simp
    · rename_i n4
      rw [walk_cons, es, found_glue C _ .no _ (by
        cases r with
        | nil => exact .inl rfl
        | cons d q =>
          refine .inr ⟨d, q, rfl, ?_, joins_no C d⟩
          rcases hk with hk | hk
          · simp [glueOf, n4, hk, joins]
          · simp [glueOf, n4, hk, joins])]
      refine (ih _ ⟨_, _, _, _, _⟩ ?_ ?_ ?_ rfl).trans ?_
      · omega
      · exact h2
      · exact hr
      simp

/-- the lines of a text -/
def lines : List Nat → List Nat → List (List Nat)
  | acc, [] => [acc]
  | acc, c :: r => if c = 10 then acc :: lines [] r else lines (acc ++ [c]) r

/-- the tokens of lines numbered from n + 1 on -/
def linesT : Int → List (List Nat) → List Tk
  | _, [] => []
  | n, l :: r => lineT C (n + 1) 0 l ++ linesT (n + 1) r

theorem walk_text (ok : Ok C) : ∀ (r acc : List Nat) (n : Int) (f : List Tk), 10 ∉ acc →
    (walk C (walk C ⟨n + 1, 0, .no, false, f⟩ acc) r).found = f ++ linesT C n (lines acc r)
  | [], acc, n, f, h => by
    rw [walk_nil, walk_line C ok acc.length acc _ (Nat.le_refl _) h rfl rfl]
    simp [lines, linesT, lineT]
  | c :: r, acc, n, f, h => by
    unfold lines
    split
    · rename_i e
      subst e
      rw [walk_cons]
      have es : ∀ s : S, step C s 10 = { s with line := s.line + 1, col := 0, glue := .no, rem := false } := fun s => by simp [step]
      have el : ∀ (l : List Nat) (s : S), 10 ∉ l → (walk C s l).line = s.line := by
        intro l
        induction l with
        | nil => intro s _; rfl
        | cons d q ihq =>
          intro s hm
          rw [walk_cons, ihq _ (fun m => hm (by simp [m]))]
          have : ¬ d = 10 := fun e => hm (by simp [e])
          unfold step
          rw [if_neg this]
          split
          · rfl
          split
          · rfl
          · rfl
      rw [es, el acc _ h, walk_line C ok acc.length acc _ (Nat.le_refl _) h rfl rfl]
      have ih := walk_text ok r [] (n + 1) (f ++ lt C (n + 1) 0 acc.length acc) (by simp)
      rw [walk_nil] at ih
      show (walk C ⟨n + 1 + 1, 0, .no, false, f ++ lt C (n + 1) 0 acc.length acc⟩ r).found = _
      rw [ih]
      simp [linesT, lineT]
    · rename_i e
      rw [walk_cons]
      have : step C (walk C ⟨n + 1, 0, .no, false, f⟩ acc) c = walk C ⟨n + 1, 0, .no, false, f⟩ (acc ++ [c]) := by
        rw [walk_app]; rfl
      rw [this]
      exact walk_text ok r (acc ++ [c]) n f (by simp [h]; exact fun e' => e e'.symm)

theorem law_lines (ok : Ok C) (l : List Nat) : lawToks C l = linesT C 0 (lines [] l) := by
  have h := walk_text C ok l [] 0 [] (by simp)
  rw [walk_nil] at h
  simpa [lawToks] using h

/-- an empty last line has no token -/
def chop (ls : List (List Nat)) : List (List Nat) := if ls.getLast? = some [] then ls.dropLast else ls
theorem linesT_app : ∀ (a b : List (List Nat)) (n : Int), linesT C n (a ++ b) = linesT C n a ++ linesT C (n + a.length) b
  | [], b, n => by simp [linesT]
  | l :: r, b, n => by
    show lineT C (n + 1) 0 l ++ linesT C (n + 1) (r ++ b) = (lineT C (n + 1) 0 l ++ linesT C (n + 1) r) ++ _
    rw [linesT_app r b (n + 1), List.append_assoc]
    congr 3
    simp only [List.length_cons]
    omega
theorem linesT_chop (ls : List (List Nat)) (n : Int) : linesT C n (chop ls) = linesT C n ls := by
  unfold chop
  split
  · rename_i h
    have e : ls = ls.dropLast ++ [[]] := by
      cases ls with
      | nil => simp at h
      | cons a r =>
        have h' := List.dropLast_concat_getLast (List.cons_ne_nil a r)
        rw [List.getLast?_eq_some_getLast (List.cons_ne_nil a r)] at h
        rw [Option.some.inj h] at h'
        exact h'.symm
    conv => rhs; rw [e]
    rw [linesT_app]
    simp [linesT, lineT, lt]
  · rfl

/-- x1 and a blank ahead: the first line's tokens stand three places further -/
def moved (t : Tk) : Tk := { t with col := if t.line = 1 then t.col + 3 else t.col }
def okGlue (s : S) : Prop := (s.glue = .name ∨ s.glue = .number ∨ s.glue = .dash) → s.found ≠ []

theorem step_okGlue (s : S) (c : Nat) (h : okGlue s) : okGlue (step C s c) := by
  unfold step
  split
  · intro h'; simp at h'
  split
  · intro h'; simp at h'
  split
  · rename_i hj
    intro _
    have hn : s.found ≠ [] := h (by
      unfold joins at hj
      cases hg : s.glue <;> simp_all)
    dsimp only
    rw [List.getLast?_eq_some_getLast hn]
    simp
  · intro _
    simp

def shift (s : S) (x : Tk) : S := { s with col := if s.line = 1 then s.col + 3 else s.col, found := x :: s.found.map moved }

theorem step_shift (s : S) (x : Tk) (c : Nat) (h : okGlue s) (h1 : 1 ≤ s.line) : step C (shift s x) c = shift (step C s c) x := by
  unfold step
  split
  · rename_i e
    simp only [shift]
    congr 1
    rw [if_neg (by omega)]
  rename_i e10
  split
  · rename_i hh
    have hh' : (s.rem || decide (c = 32) || decide (c = 35)) = true := hh
    rw [if_pos hh']
    simp only [shift]
    congr 1
    split <;> omega
  rename_i hh
  have hh' : ¬ (s.rem || decide (c = 32) || decide (c = 35)) = true := hh
  rw [if_neg hh']
  split
  · rename_i hj
    have hj' : joins C s.glue c = true := hj
    rw [if_pos hj']
    have hn : s.found ≠ [] := h (by
      unfold joins at hj'
      cases hg : s.glue <;> simp_all)
    simp only [shift]
    congr 1
    · split <;> omega
    · obtain ⟨a, t, ht⟩ : ∃ a t, s.found = a ++ [t] := ⟨s.found.dropLast, s.found.getLast hn, (List.dropLast_concat_getLast hn).symm⟩
      rw [ht]
      simp only [List.map_append, List.map_cons, List.map_nil]
      rw [show x :: (a.map moved ++ [moved t]) = (x :: a.map moved) ++ [moved t] from rfl]
      rw [List.dropLast_concat, List.dropLast_concat, List.getLast?_concat, List.getLast?_concat]
      simp [moved, addTo]
  · rename_i hj
    have hj' : ¬ joins C s.glue c = true := hj
    rw [if_neg hj']
    simp only [shift]
    congr 1
    · split <;> omega
    · simp only [List.map_append, List.map_cons, List.map_nil, List.cons_append]
      congr 2
      simp only [moved]
      congr 2
      split <;> omega

theorem step_line (s : S) (c : Nat) (h1 : 1 ≤ s.line) : 1 ≤ (step C s c).line := by
  unfold step
  split
  · dsimp only; omega
  split
  · exact h1
  split <;> exact h1

theorem walk_shift (x : Tk) : ∀ (l : List Nat) (s : S), okGlue s → 1 ≤ s.line → walk C (shift s x) l = shift (walk C s l) x
  | [], s, _, _ => rfl
  | c :: r, s, h, h1 => by
    rw [walk_cons, walk_cons, step_shift C s x c h h1]
    exact walk_shift x r _ (step_okGlue C s c h) (step_line C s c h1)

theorem walk_okGlue : ∀ (l : List Nat) (s : S), okGlue s → okGlue (walk C s l)
  | [], s, h => h
  | c :: r, s, h => walk_okGlue r _ (step_okGlue C s c h)

/-- "x1 " ahead of a text -/
theorem law_x1 (hx : C.sm 120 = true) (h1 : C.sm 49 = false ∧ C.fg 49 = true) (l : List Nat) :
    lawToks C ([120, 49, 32] ++ l) = ⟨1, 1, .name, [120, 49]⟩ :: (lawToks C l).map moved := by
  unfold lawToks
  rw [walk_app]
  have e : walk C ⟨1, 0, .no, false, []⟩ [120, 49, 32] = shift ⟨1, 0, .no, false, []⟩ ⟨1, 1, .name, [120, 49]⟩ := by
    simp [walk, step, joins, shift, kindOf, glueOf, hx, h1, addTo]
  rw [e, walk_shift C _ _ _ (fun h => by simp at h) (by simp)]
  rfl
end K00
set_option Elab.async false
set_option linter.all false
set_option maxRecDepth 100000
set_option maxHeartbeats 4000000
namespace K00W
open PySem PySem.Spec PyProof.Rows L2 TL LW
local macro_rules | `(tactic| walk_at "ne") => `(tactic| first
  | assumption
  | exact Ne.symm (by assumption)
  | exact ne_of_none (by assumption) (by assumption)
  | exact (ne_of_none (by assumption) (by assumption)).symm
  | (apply ne_of_none; (case h' => assumption); (case h => walk_at "hp"))
  | (apply Ne.symm; apply ne_of_none; (case h' => assumption); (case h => walk_at "hp")))
local macro_rules | `(tactic| walk_at "hp") => `(tactic| first
  | assumption
  | exact upd_same
  | (refine (upd_ne ?ne).trans ?hp; (case ne => walk_at "ne"); (case hp => walk_at "hp")))
local macro_rules | `(tactic| walk_at "sq") => `(tactic| first
  | assumption
  | exact SqL.of (by assumption)
  | exact SqL.of upd_same
  | exact SqT.of (by assumption)
  | exact SqT.of upd_same
  | (refine SqL.of ?_; walk_at "hp")
  | (refine SqT.of ?_; walk_at "hp"))
local macro_rules | `(tactic| walk_at "len") => `(tactic| first
  | assumption
  | exact sz_small (by omega)
  | exact sz_less (by omega)
  | decide
  | (refine sz_small ?_; simp only [List.length_append, List.length_cons, List.length_nil, List.length_map, str_len]; omega)
  | (refine sz_less ?_; simp only [List.length_append, List.length_cons, List.length_nil, List.length_map, str_len]; omega))
local macro_rules | `(tactic| walk_at "cond") => `(tactic| first
  | assumption
  | omega
  | exact .inl ⟨by omega, by omega⟩
  | exact .inr ⟨by omega, by omega⟩
  | exact ⟨by omega, by omega⟩
  | (show (0 : Int) < _; omega)
  | (show (0 : Int) < _; decide +kernel)
  | exact ⟨by omega, by omega, by decide⟩
  | walk_at "len"
  | rfl
  | (show CMulW _ _; unfold CMulW; decide +kernel)
  | exact ⟨_, rfl⟩
  | decide +kernel
  | exact ⟨_, by walk_at "sq"⟩
  | exact .inl ⟨rfl, _, by walk_at "sq"⟩)
local macro_rules | `(tactic| walk_at "at") => `(tactic| first
  | assumption
  | exact atI_nat (by assumption)
  | exact atI_nat (j := 0) rfl
  | exact atI_nat (j := 1) rfl
  | exact atI_nat (j := 2) rfl
  | exact atI_nat (j := 3) rfl
  | exact atI_nat (j := 4) rfl)
local macro_rules | `(tactic| walk_at "ix") => `(tactic| first
  | assumption
  | (with_reducible exact ixN_0 (by simp; done))
  | (with_reducible exact ixN_1 (by simp; done))
  | (with_reducible exact ixN_2 (by simp; done))
  | (with_reducible exact Evl.ixN_nat (by assumption))
  | (with_reducible exact Evl.ixN_nat (by omega)))
local macro_rules | `(tactic| walk_at "v") => `(tactic| first
  | exact val_var rfl
  | (with_reducible exact val_c)
  | (with_reducible apply val_orV; (case ha => walk_at "v"); (case hb => walk_at "v"))
  | (with_reducible apply val_andV; (case ha => walk_at "v"); (case hb => walk_at "v"))
  | (with_reducible apply val_notV; walk_at "v")
  | (with_reducible apply val_ifS; (case h => walk_at "w"); (case ha => walk_at "v"); (case hb => walk_at "v"))
  | (with_reducible apply val_ifI; (case h => walk_at "w"); (case ha => walk_at "v"); (case hb => walk_at "v"))
  | (with_reducible apply val_ifB; (case h => walk_at "w"); (case ha => walk_at "v"); (case hb => walk_at "v"))
  | (with_reducible apply val_eqS; (case ha => walk_at "v"); (case hb => walk_at "v"))
  | (with_reducible apply val_eqI; (case ha => walk_at "v"); (case hb => walk_at "v"))
  | (with_reducible apply val_neS; (case ha => walk_at "v"); (case hb => walk_at "v"))
  | (with_reducible apply val_neI; (case ha => walk_at "v"); (case hb => walk_at "v"))
  | (with_reducible apply val_op; (case ha => walk_at "v"); (case hb => walk_at "v"); (case hr => exact fun Q q => ⟨_, _, rfl, rfl, q⟩)))
local macro_rules | `(tactic| walk_at "w") => `(tactic| first
  | (with_reducible apply ans_or2; (case h1 => walk_at "w"); (case h2 => walk_at "w"))
  | (with_reducible apply ans_and2; (case h1 => walk_at "w"); (case h2 => walk_at "w"))
  | (with_reducible apply ans_not; walk_at "w")
  | (with_reducible apply ans_test; walk_at "v")
  | (with_reducible apply ans_val; walk_at "v"))
local macro_rules | `(tactic| walk_at "s1") => `(tactic| first
  | (with_reducible refine go_c ?_)
  | (with_reducible apply go_pick; (case hs => walk_at "hp"); (case h0 => walk_at "cond"); (case h1 => walk_at "cond"); (case' q => intro k a b c h0 h1))
  | (with_reducible refine go_nil ?_)
  | (with_reducible refine go_cons ?_)
  | (with_reducible refine go_call ?_)
  | (with_reducible refine go_cb ?_)
  | (with_reducible refine go_next ?_)
  | (with_reducible refine go_cont ?_)
  | (with_reducible refine go_name ?_)
  | (with_reducible refine go_seq ?_)
  | (with_reducible refine go_asg ?_)
  | (with_reducible apply go_or; (case h => walk_at "v"))
  | (with_reducible apply go_and; (case h => walk_at "v"))
  | (with_reducible apply go_ifE; (case h => walk_at "v"))
  | (with_reducible apply go_ifOr; (case h => walk_at "w"); (case' h1 => intro e); (case' h2 => intro e))
  | (with_reducible apply go_ifAnd; (case h => walk_at "w"); (case' h1 => intro e); (case' h2 => intro e))
  | refine ⟨_, rfl, ?_⟩
  | refine ⟨_, _, rfl, rfl, ?_⟩
  | (refine And.intro ?cc ?_; (case cc => walk_at "cond"))
  | refine ⟨_, _, _, _, rfl, rfl, by walk_at "sq", by walk_at "at", ?_⟩
  | refine ⟨_, _, _, _, rfl, rfl, by walk_at "hp", by walk_at "ix", ?_⟩
  | refine ⟨_, _, _, _, rfl, rfl, by walk_at "hp", by walk_at "hp", by walk_at "len", ?_⟩
  | refine ⟨_, _, _, rfl, rfl, by walk_at "len", by walk_at "at", ?_⟩
  | refine ⟨_, _, _, rfl, rfl, by walk_at "hp", by walk_at "len", ?_⟩
  | refine ⟨_, _, _, rfl, rfl, by walk_at "hp", by walk_at "at", ?_⟩
  | refine ⟨_, _, rfl, rfl, by walk_at "sq", ?_⟩
  | refine ⟨_, _, rfl, rfl, by walk_at "len", ?_⟩
  | refine ⟨_, _, rfl, by walk_at "sq", ?_⟩
  | refine ⟨_, _, rfl, .inl (by walk_at "sq"), ?_⟩
  | refine ⟨_, _, rfl, .inr (by walk_at "sq"), ?_⟩
  | refine ⟨_, _, rfl, by walk_at "sq", rfl, ?_⟩
  | refine ⟨_, fun _ _ h => h, ?_⟩
  | refine ⟨_, _, rfl, ?_⟩
  | refine .inl ⟨_, rfl, ?_⟩
  | refine ⟨_, _, .type "int", .type _, true, rfl, ClsV.ty _, .base (.int _), kit_ty (by decide +kernel), ?_⟩
  | refine ⟨_, _, .type "int", .type _, false, rfl, ClsV.ty _, .base (.int _), kit_ty (by decide +kernel), ?_⟩
  | refine ⟨_, _, .type "bool", .type _, true, rfl, ClsV.ty _, .base (.bl _), kit_ty (by decide +kernel), ?_⟩
  | refine ⟨_, _, .type "bool", .type _, false, rfl, ClsV.ty _, .base (.bl _), kit_ty (by decide +kernel), ?_⟩
  | refine ⟨_, _, .type "str", .type _, true, rfl, ClsV.ty _, .base (.str _), kit_ty (by decide +kernel), ?_⟩
  | refine ⟨_, _, .type "str", .type _, false, rfl, ClsV.ty _, .base (.str _), kit_ty (by decide +kernel), ?_⟩
  | refine ⟨_, _, .type "NoneType", .type _, true, rfl, ClsV.ty _, .base (.non), kit_ty (by decide +kernel), ?_⟩
  | refine ⟨_, _, .type "NoneType", .type _, false, rfl, ClsV.ty _, .base (.non), kit_ty (by decide +kernel), ?_⟩
  | refine ⟨_, _, .type "list", .type _, true, rfl, ClsV.ty _, .base (.lst (by walk_at "hp")), kit_ty (by decide +kernel), ?_⟩
  | refine ⟨_, _, .type "list", .type _, false, rfl, ClsV.ty _, .base (.lst (by walk_at "hp")), kit_ty (by decide +kernel), ?_⟩
  | refine ⟨_, _, .type "tuple", .type _, true, rfl, ClsV.ty _, .base (.tup (by walk_at "hp")), kit_ty (by decide +kernel), ?_⟩
  | refine ⟨_, _, .type "tuple", .type _, false, rfl, ClsV.ty _, .base (.tup (by walk_at "hp")), kit_ty (by decide +kernel), ?_⟩
  | (refine fun (p : Addr) (hp : _ = none) => ?_)
  | refine iteT ?_
  | refine iteF ?_
  | refine iteD (fun _ => ?_) (fun e => absurd rfl e)
  | refine iteS (fun e => ?_) (fun e => ?_)
  | refine iteI (fun e => ?_) (fun e => ?_)
  | refine iteSn (fun e => ?_) (fun e => ?_)
  | refine iteIn (fun e => ?_) (fun e => ?_)
  | refine iteD (fun e => ?_) (fun e => ?_)
  | refine iteDn (fun e => ?_) (fun e => ?_)
  | refine ite2 (fun e => ?_) (fun e => ?_))
local macro_rules | `(tactic| walk_at "s") => `(tactic| repeat' (walk_at "s1"))

def topS (i : Nat) : Stmt := PySem.Challenge.pw_tellsasleep_k00_tokens_sign_by_sign.main.body.getD i (.Pass ⟨0, 0, 0, 0⟩)
abbrev s_run_end : Stmt := topS 4
theorem sc_run_end : FnScope ["line", "at", "allowed", "end"] ["line", "at", "allowed"] (defScope s_run_end) := ⟨rfl, rfl, rfl, by decide +kernel, rfl, by decide +kernel, by decide +kernel⟩
abbrev s_line_tokens : Stmt := topS 5
theorem sc_line_tokens : FnScope ["line", "number", "found", "at", "sign", "end", "kind"] ["line", "number"] (defScope s_line_tokens) := ⟨rfl, rfl, rfl, by decide +kernel, rfl, by decide +kernel, by decide +kernel⟩
abbrev s_text_lines : Stmt := topS 6
theorem sc_text_lines : FnScope ["text", "lines"] ["text"] (defScope s_text_lines) := ⟨rfl, rfl, rfl, by decide +kernel, rfl, by decide +kernel, by decide +kernel⟩
abbrev s_text_tokens : Stmt := topS 7
theorem sc_text_tokens : FnScope ["text", "found", "number", "line"] ["text"] (defScope s_text_tokens) := ⟨rfl, rfl, rfl, by decide +kernel, rfl, by decide +kernel, by decide +kernel⟩
abbrev s_law_source : Stmt := topS 9
theorem sc_law_source : FnScope ["script", "at", "limit", "cell", "cells", "state", "great"] ["script", "at"] (defScope s_law_source) := ⟨rfl, rfl, rfl, by decide +kernel, rfl, by decide +kernel, by decide +kernel⟩
abbrev s_law_pick : Stmt := topS 10
theorem sc_law_pick : FnScope ["source", "many", "found", "state"] ["source", "many"] (defScope s_law_pick) := ⟨rfl, rfl, rfl, by decide +kernel, rfl, by decide +kernel, by decide +kernel⟩
abbrev s_law_same : Stmt := topS 11
theorem sc_law_same : FnScope ["answer", "due", "key", "one", "other"] ["answer", "due"] (defScope s_law_same) := ⟨rfl, rfl, rfl, by decide +kernel, rfl, by decide +kernel, by decide +kernel⟩
abbrev s_law_a_tokens : Stmt := topS 12
theorem sc_law_a_tokens : FnScope ["text", "small", "found", "line", "column", "glue", "remark", "sign", "figure", "joins", "last", "kind"] ["text"] (defScope s_law_a_tokens) := ⟨rfl, rfl, rfl, by decide +kernel, rfl, by decide +kernel, by decide +kernel⟩
abbrev s_law : Stmt := topS 13
theorem sc_law : FnScope ["script", "source", "menus", "weights", "text", "at", "menu", "lines", "turn", "due", "first", "other", "moved", "line", "column", "kind", "word"] ["script"] (defScope s_law) := ⟨rfl, rfl, rfl, by decide +kernel, rfl, by decide +kernel, by decide +kernel⟩
structure Top (K : PySem.W.Frag) (mg : Str → Option Value) where
  a_run_end : Addr
  d_run_end : FuncData
  F_run_end : Fun K "run_end" "run_end" s_run_end a_run_end d_run_end
  b_run_end : Binds K d_run_end ["line", "at", "allowed"] []
  m_run_end : mg "run_end" = some (.ref a_run_end)
  a_line_tokens : Addr
  d_line_tokens : FuncData
  F_line_tokens : Fun K "line_tokens" "line_tokens" s_line_tokens a_line_tokens d_line_tokens
  b_line_tokens : Binds K d_line_tokens ["line", "number"] []
  m_line_tokens : mg "line_tokens" = some (.ref a_line_tokens)
  a_text_lines : Addr
  d_text_lines : FuncData
  F_text_lines : Fun K "text_lines" "text_lines" s_text_lines a_text_lines d_text_lines
  b_text_lines : Binds K d_text_lines ["text"] []
  m_text_lines : mg "text_lines" = some (.ref a_text_lines)
  a_text_tokens : Addr
  d_text_tokens : FuncData
  F_text_tokens : Fun K "text_tokens" "text_tokens" s_text_tokens a_text_tokens d_text_tokens
  b_text_tokens : Binds K d_text_tokens ["text"] []
  m_text_tokens : mg "text_tokens" = some (.ref a_text_tokens)
  a_law_source : Addr
  d_law_source : FuncData
  F_law_source : Fun K "_law_source" "_law_source" s_law_source a_law_source d_law_source
  b_law_source : Binds K d_law_source ["script", "at"] []
  m_law_source : mg "_law_source" = some (.ref a_law_source)
  a_law_pick : Addr
  d_law_pick : FuncData
  F_law_pick : Fun K "_law_pick" "_law_pick" s_law_pick a_law_pick d_law_pick
  b_law_pick : Binds K d_law_pick ["source", "many"] []
  m_law_pick : mg "_law_pick" = some (.ref a_law_pick)
  a_law_same : Addr
  d_law_same : FuncData
  F_law_same : Fun K "_law_same" "_law_same" s_law_same a_law_same d_law_same
  b_law_same : Binds K d_law_same ["answer", "due"] []
  m_law_same : mg "_law_same" = some (.ref a_law_same)
  a_law_a_tokens : Addr
  d_law_a_tokens : FuncData
  F_law_a_tokens : Fun K "_law_a_tokens" "_law_a_tokens" s_law_a_tokens a_law_a_tokens d_law_a_tokens
  b_law_a_tokens : Binds K d_law_a_tokens ["text"] []
  m_law_a_tokens : mg "_law_a_tokens" = some (.ref a_law_a_tokens)
  a_law : Addr
  d_law : FuncData
  F_law : Fun K "law" "law" s_law a_law d_law
  b_law : Binds K d_law ["script"] []
  m_law : mg "law" = some (.ref a_law)
  bt_law : ∀ (s : Shared) (v : Value), BindsTo s d_law ⟨[v], []⟩ [("script", v)]
  t_SMALL : Tok
  m_SMALL : mg "SMALL" = some (Value.str (Str.ofString "abcdefghijklmnopqrstuvwxyz") t_SMALL)
  t_FIGURES : Tok
  m_FIGURES : mg "FIGURES" = some (Value.str (Str.ofString "0123456789") t_FIGURES)
  t_SINGLES : Tok
  m_SINGLES : mg "SINGLES" = some (Value.str (Str.ofString "()[],:|=+*-") t_SINGLES)
  m_bool : mg "bool" = none
  m_dict : mg "dict" = none
  m_int : mg "int" = none
  m_isinstance : mg "isinstance" = none
  m_len : mg "len" = none
  m_list : mg "list" = none
  m_range : mg "range" = none
  m_str : mg "str" = none
  m_tuple : mg "tuple" = none
  m_zip : mg "zip" = none
section
variable {P : Program} {w : World} {K : PySem.W.Frag} {mg : Str → Option Value} {base : Heap}
/-! ### a number from 0 to many - 1; the source may turn -/
def spPick : Sp := fun vs H Q _ => ∃ (s : Addr) (a b c many : Int), vs = [.ref s, .int many] ∧ H s = some (.lst [.int a, .int b, .int c]) ∧ 0 < many ∧ many < 1073741824 ∧
  ∀ k a' b' c' : Int, 0 ≤ k → k < many → Q (.int k) (upd H s (.lst [.int a', .int b', .int c']))
theorem go_pick {s : Addr} {a b c many : Int} {H : Hp} {Q : VK} {E : XK} (hs : H s = some (.lst [.int a, .int b, .int c])) (h0 : 0 < many) (h1 : many < 1073741824)
    (q : ∀ k a' b' c' : Int, 0 ≤ k → k < many → Q (.int k) (upd H s (.lst [.int a', .int b', .int c']))) : spPick ([.ref s, .int many] ++ []) H Q E := ⟨s, a, b, c, many, rfl, hs, h0, h1, q⟩
theorem ok_pick (T : Top K mg) : FnOk P w K mg base CX0 1 T.a_law_pick T.d_law_pick ["source", "many"] spPick := by
  refine T.F_law_pick.ok sc_law_pick (fun vs H Q E h => ?_) (fun cdv A outer s H vs Q E hr h => ?_)
  · obtain ⟨s, a, b, c, m, rfl, _⟩ := h
    rfl
  · obtain ⟨s, a, b, c, m, rfl, hs, m0, m1, q⟩ := h
    refine ⟨_, (pss_cons (ps_if (pt_cmpR op_gt (pe_ix ix_list (pv 0) pe_int (fun _ _ => rfl)) pe_int (nomark _))
    (pss_cons (ps_set (i := 2) sc_law_pick.nd rfl (.inl rfl) (pe_op op_mod (pe_ix ix_list (pv 0) pe_int (fun _ _ => rfl)) (pv 1)))
    (pss_cons (ps_asg (pe_op op_fdiv (pe_ix ix_list (pv 0) pe_int (fun _ _ => rfl)) (pv 1)) (pg_sub (pv 0) pe_int set_list))
    (pss_one (ps_ret (pv 2)))))
    pss_nil)
    (pss_cons (ps_asg (pe_op op_add (pe_ix ix_list (pv 0) pe_int (fun _ _ => rfl)) pe_int) (pg_sub (pv 0) pe_int set_list))
    (pss_cons (ps_set (i := 3) sc_law_pick.nd rfl (.inl rfl) (pe_op op_mod (pe_op op_add (pe_op op_add (pe_op op_mul (pe_ix ix_list (pv 0) pe_int (fun _ _ => rfl)) pe_int) (pe_op op_mul (pe_ix ix_list (pv 0) pe_int (fun _ _ => rfl)) pe_int)) pe_int) pe_int))
    (pss_cons (ps_set (i := 3) sc_law_pick.nd rfl (.inl rfl) (pe_op op_mod (pe_op op_add (pe_op op_add (pe_op op_mul (pv 3) pe_int) (pe_op op_mul (pe_ix ix_list (pv 0) pe_int (fun _ _ => rfl)) pe_int)) pe_int) pe_int))
    (pss_cons (ps_asg (pv 3) (pg_sub (pv 0) pe_int set_list))
    (pss_one (ps_ret (pe_op op_mod (pe_op op_fdiv (pv 3) pe_int) (pv 1))))))))), ?_⟩
    walk_at "s"
    · exact q _ _ _ _ (Int.emod_nonneg _ (by omega)) (Int.emod_lt_of_pos _ m0)
    · rw [upd_upd]
      exact q _ _ _ _ (Int.emod_nonneg _ (by omega)) (Int.emod_lt_of_pos _ m0)
/-! ### the source of a script -/
def spSource (K : PySem.W.Frag) : Sp := fun vs H Q _ => ∃ (l : Addr) (ns : List Int) (n : Nat), vs = [.ref l, .int n] ∧ SqL K H l (ns.map V.int) ∧ ns.length ≤ 63 ∧ n ≤ 1000 ∧
  ∀ (s : Addr) (a b c : Int) (H' : Hp), Same H H' → H s = none → H' s = some (.lst [.int a, .int b, .int c]) → Q (.ref s) H'
theorem ok_source (T : Top K mg) : FnOk P w K mg base CX0 1 T.a_law_source T.d_law_source ["script", "at"] (spSource K) := by
  refine T.F_law_source.ok sc_law_source (fun vs H Q E h => ?_) (fun cdv A outer s H vs Q E hr h => ?_)
  · obtain ⟨l, ns, n, rfl, _⟩ := h
    rfl
  · obtain ⟨l, ns, n, rfl, hl, hn, hb, q⟩ := h
    refine ⟨_, (pss_cons (ps_set (i := 2) sc_law_source.nd rfl (.inr rfl) (pe_op op_mulW (pe_op op_mulW (pe_op op_mulW (pe_op op_mulW (pe_op op_mulW (pe_op op_pow pe_int pe_int) (pe_op op_pow pe_int pe_int)) (pe_op op_pow pe_int pe_int)) (pe_op op_pow pe_int pe_int)) (pe_op op_pow pe_int pe_int)) (pe_op op_pow pe_int pe_int)))
    (pss_cons (ps_setLc (i := 4) (own := [("cell", 3)]) rfl sc_law_source.nd rfl rfl (sw_true rfl rfl rfl (by decide +kernel)) (pi_list (pe_slice sl_list (pv 0) po_none (po_some pe_int))) (blkOk_by (own := [("cell", 3)]) (N := ["script", "at", "limit", "cell", "cells", "state", "great"]) (sc := defScope s_law_source) (by decide +kernel)) (fun _ _ _ _ _ => (pg_name (i := 3) sc_law_source.nd rfl (.inl rfl))) (fun _ _ _ _ _ => pts_nil) (fun _ _ _ _ _ => (pe_op op_mod (pe_callTy call_int1 (by rfl) T.m_int (by decide +kernel) (pa_cons (pv 3) pa_nil)) (pv 2))))
    (pss_cons (ps_set (i := 5) sc_law_source.nd rfl (.inl rfl) (pe_op op_add pe_int (pe_op op_mul (pv 1) pe_int)))
    (pss_cons (ps_for PassesOwn.never rfl (pi_list (pv 4)) (pg_name (i := 3) sc_law_source.nd rfl (.inl rfl))
    (pss_one (ps_set (i := 5) sc_law_source.nd rfl (.inl rfl) (pe_op op_mod (pe_op op_add (pe_op op_add (pe_op op_mul (pv 5) pe_int) (pe_op op_mod (pv 3) pe_int)) pe_int) pe_int))))
    (pss_cons (ps_set (i := 6) sc_law_source.nd rfl (.inl rfl) (pe_ifExp (pt_cmpR op_gt (pe_callB call_len_seq (by rfl) T.m_len (by decide +kernel) (pa_cons (pv 4) pa_nil)) pe_int (nomark _)) (pe_ix ix_list (pv 4) (pe_op op_mod (pv 1) (pe_callB call_len_seq (by rfl) T.m_len (by decide +kernel) (pa_cons (pv 4) pa_nil))) (fun _ _ => rfl)) pe_int))
    (pss_one (ps_ret (pe_lst (pa_cons (pe_ifExp (pt_cmpR op_ge (pv 6) (pe_op op_pow pe_int pe_int) (nomark _)) (pv 6) pe_int) (pa_cons (pv 5) (pa_cons (pe_op op_mod (pv 1) pe_int) pa_nil))))))))))), ?_⟩
    walk_at "s"
    rename_i c hc D hD
    have ec : cutV (ns.map V.int) none (some 63) = (ns.take 63).map V.int := by
      rw [show (63 : Int) = ((63 : Nat) : Int) from rfl, cut_take, List.map_take]
    rw [ec] at hD ⊢
    have hl1 : Same H (upd H c (.lst ((ns.take 63).map V.int))) := same_new hc
    have hl2 := hl1.trans (same_new (o := .lst []) hD)
    refine lc_list (xs := (ns.take 63).map V.int) (fun i H1 => ∃ ms : List Int, ms.length = i ∧ Same H H1 ∧ H1 c = some (.lst ((ns.take 63).map V.int)) ∧ H1 D = some (.lst (ms.map V.int))) ?_ ?_ ?_ ?_
    · exact ⟨[], rfl, hl2, by walk_at "hp", upd_same⟩
    · intro i H1 hi hP
      obtain ⟨ms, e1, sm, h1, h2⟩ := hP
      exact SqL.of h1
    · intro i x H1 hi hP
      obtain ⟨ms, e1, sm, h1, h2⟩ := hP
      obtain ⟨v, rfl, hv⟩ := map_get hi
      walk_at "s"
      have hi' : i < 63 := by
        have := (List.getElem?_eq_some_iff.mp hv).1
        rw [List.length_take] at this
        omega
      have nc : c ≠ D := by walk_at "ne"
      have nD : H D = none := hl1.free hD
      exact ⟨_, h2, sz_less (by rw [List.length_map]; omega), ms ++ [_], by simp [e1], same_mut sm nD, (upd_ne nc).trans h1, by rw [upd_same, List.map_append]; rfl⟩
    · intro H1 hP
      obtain ⟨ms, e1, sm, h1, h2⟩ := hP
      walk_at "s"
      refine for_list (xs := ms.map V.int) (fun i σ H2 => ∃ v0 v5 v6, σ = [some (.ref l), some (.int n), v0, v5, some (.ref D), some (.int v6), none] ∧ H2 = H1) ⟨_, _, _, rfl, rfl⟩ ?_ ?_ ?_
      · intro i σ H2 hi hP
        obtain ⟨v0, v5, v6, rfl, rfl⟩ := hP
        exact SqL.of h2
      · intro i x σ H2 hi hP
        obtain ⟨v0, v5, v6, rfl, rfl⟩ := hP
        obtain ⟨v, rfl, hv⟩ := map_get hi
        walk_at "s"
        exact ⟨_, _, _, rfl, rfl⟩
      · intro σ H2 hP
        obtain ⟨v0, v5, v6, rfl, rfl⟩ := hP
        walk_at "s"
        · rename_i e0
          obtain ⟨g, hg, ha⟩ := atI_map (f := V.int) (ms := ms) (i := (n : Int) % ((ms.map V.int).length : Int)) (Int.emod_nonneg _ (by omega)) (by
            have := Int.emod_lt_of_pos (n : Int) e0
            rw [List.length_map] at this ⊢
            exact this)
          refine ⟨_, _, _, _, rfl, rfl, SqL.of h2, ha, ?_⟩
          walk_at "s"
          · rename_i p hp
            exact q p _ _ _ _ (sm.trans (same_new hp)) (sm.free hp) upd_same
          · rename_i p hp
            exact q p _ _ _ _ (sm.trans (same_new hp)) (sm.free hp) upd_same
        · rename_i p hp
          exact q p _ _ _ _ (sm.trans (same_new hp)) (sm.free hp) upd_same
/-! ### the same, through and through -/
def spSame (n : Nat) : Sp := fun vs H Q _ => ∃ (x y : V) (d : PyData), vs = [x, y] ∧ Dt H x d ∧ Dt H y d ∧ dep d < n ∧ ∀ H', Same H H' → Q (.bl true) H'
theorem ok_same (T : Top K mg) : ∀ n, FnOk P w K mg base CX0 (n + 1) T.a_law_same T.d_law_same ["answer", "due"] (spSame n) := by
  intro n
  induction n with
  | zero =>
    refine T.F_law_same.ok sc_law_same (fun vs H Q E h => ?_) (fun cdv A outer s H vs Q E hr h => ?_)
    · obtain ⟨x, y, d, rfl, _⟩ := h
      rfl
    · obtain ⟨x, y, d, rfl, hx, hy, hd, q⟩ := h
      omega
  | succ n ih =>
    refine T.F_law_same.ok sc_law_same (fun vs H Q E h => ?_) (fun cdv A outer s H vs Q E hr h => ?_)
    · obtain ⟨x, y, d, rfl, _⟩ := h
      rfl
    · obtain ⟨x, y, d, rfl, hx, hy, hd, q⟩ := h
      have G_law_same := ih
      refine ⟨_, (pss_cons (ps_if (pt_cmpR op_isN (pv 1) pe_non (nomark _))
    (pss_one (ps_ret (pe_cmpR op_isN (pv 0) pe_non (nomark _))))
    pss_nil)
    (pss_cons (ps_if (pt_val (pe_callB call_isi (by rfl) T.m_isinstance (by decide +kernel) (pa_cons (pv 1) (pa_cons (pe_bltn (v := .ty "bool") (u := .type "bool") (by rfl) T.m_bool (by decide +kernel) rfl) pa_nil))))
    (pss_one (ps_ret (pe_and (pe_callB call_isi (by rfl) T.m_isinstance (by decide +kernel) (pa_cons (pv 0) (pa_cons (pe_bltn (v := .ty "bool") (u := .type "bool") (by rfl) T.m_bool (by decide +kernel) rfl) pa_nil))) (pe_one (pe_cmpR op_eq (pv 0) (pv 1) (nomark _))))))
    pss_nil)
    (pss_cons (ps_if (pt_val (pe_callB call_isi (by rfl) T.m_isinstance (by decide +kernel) (pa_cons (pv 1) (pa_cons (pe_bltn (v := .ty "int") (u := .type "int") (by rfl) T.m_int (by decide +kernel) rfl) pa_nil))))
    (pss_one (ps_ret (pe_and (pe_callB call_isi (by rfl) T.m_isinstance (by decide +kernel) (pa_cons (pv 0) (pa_cons (pe_bltn (v := .ty "int") (u := .type "int") (by rfl) T.m_int (by decide +kernel) rfl) pa_nil))) (pe_and (pe_not (pe_callB call_isi (by rfl) T.m_isinstance (by decide +kernel) (pa_cons (pv 0) (pa_cons (pe_bltn (v := .ty "bool") (u := .type "bool") (by rfl) T.m_bool (by decide +kernel) rfl) pa_nil)))) (pe_one (pe_cmpR op_eq (pv 0) (pv 1) (nomark _)))))))
    pss_nil)
    (pss_cons (ps_if (pt_val (pe_callB call_isi (by rfl) T.m_isinstance (by decide +kernel) (pa_cons (pv 1) (pa_cons (pe_bltn (v := .ty "str") (u := .type "str") (by rfl) T.m_str (by decide +kernel) rfl) pa_nil))))
    (pss_one (ps_ret (pe_and (pe_callB call_isi (by rfl) T.m_isinstance (by decide +kernel) (pa_cons (pv 0) (pa_cons (pe_bltn (v := .ty "str") (u := .type "str") (by rfl) T.m_str (by decide +kernel) rfl) pa_nil))) (pe_one (pe_cmpR op_eq (pv 0) (pv 1) (nomark _))))))
    pss_nil)
    (pss_cons (ps_if (pt_val (pe_callB call_isi (by rfl) T.m_isinstance (by decide +kernel) (pa_cons (pv 1) (pa_cons (pe_bltn (v := .ty "dict") (u := .type "dict") (by rfl) T.m_dict (by decide +kernel) rfl) pa_nil)))) pss_never
    pss_nil)
    (pss_cons (ps_if (pt_val (pe_callB call_isi (by rfl) T.m_isinstance (by decide +kernel) (pa_cons (pv 1) (pa_cons (pe_bltn (v := .ty "tuple") (u := .type "tuple") (by rfl) T.m_tuple (by decide +kernel) rfl) pa_nil))))
    (pss_one (ps_if (pt_not (pt_val (pe_callB call_isi (by rfl) T.m_isinstance (by decide +kernel) (pa_cons (pv 0) (pa_cons (pe_bltn (v := .ty "tuple") (u := .type "tuple") (by rfl) T.m_tuple (by decide +kernel) rfl) pa_nil)))))
    (pss_one (ps_ret pe_bl))
    pss_nil))
    (pss_one (ps_if (pt_not (pt_val (pe_callB call_isi (by rfl) T.m_isinstance (by decide +kernel) (pa_cons (pv 0) (pa_cons (pe_bltn (v := .ty "list") (u := .type "list") (by rfl) T.m_list (by decide +kernel) rfl) pa_nil)))))
    (pss_one (ps_ret pe_bl))
    pss_nil)))
    (pss_cons (ps_if (pt_cmpR op_ne (pe_callB call_len_seq (by rfl) T.m_len (by decide +kernel) (pa_cons (pv 0) pa_nil)) (pe_callB call_len_seq (by rfl) T.m_len (by decide +kernel) (pa_cons (pv 1) pa_nil)) (nomark _))
    (pss_one (ps_ret pe_bl))
    pss_nil)
    (pss_cons (ps_for PassesOwn.never rfl (RZ.pi_zipA (by rfl) T.m_zip (pa_cons (pv 0) (pa_cons (pv 1) pa_nil))) (pg_tup rfl (pgs_cons (pg_name (i := 3) sc_law_same.nd rfl (.inl rfl)) (pgs_cons (pg_name (i := 4) sc_law_same.nd rfl (.inl rfl)) pgs_nil)))
    (pss_one (ps_if (pt_not (pt_val (pe_call G_law_same (hr.mono (by omega)) (by rfl) T.m_law_same T.F_law_same.kp T.b_law_same .nil pass0 (pa_cons (pv 3) (pa_cons (pv 4) pa_nil)))))
    (pss_one (ps_ret pe_bl))
    pss_nil)))
    (pss_one (ps_ret pe_bl)))))))))), ?_⟩
      cases d with
      | none =>
        unfold Dt at hx hy
        subst hx hy
        walk_at "s"
        show Q (.bl (decide (V.non = V.non))) H
        rw [decide_eq_true rfl]
        exact q _ (Same.refl H)
      | bool b =>
        unfold Dt at hx hy
        subst hx hy
        walk_at "s"
        show Q (.bl (decide (V.bl b = V.bl b))) H
        rw [decide_eq_true rfl]
        exact q _ (Same.refl H)
      | int b =>
        unfold Dt at hx hy
        subst hx hy
        walk_at "s"
        show Q (.bl (decide (V.int b = V.int b))) H
        rw [decide_eq_true rfl]
        exact q _ (Same.refl H)
      | str b =>
        unfold Dt at hx hy
        subst hx hy
        walk_at "s"
        show Q (.bl (decide (V.str b = V.str b))) H
        rw [decide_eq_true rfl]
        exact q _ (Same.refl H)
      | list ds =>
        unfold Dt at hx hy
        obtain ⟨a, xs, rfl, ha, hxs⟩ := hx
        obtain ⟨b, ys, rfl, hb, hys⟩ := hy
        have el : xs.length = ys.length := by rw [da_len hxs, da_len hys]
        have hd' : depAll ds + 1 < n + 1 := by
          unfold dep at hd
          exact hd
        walk_at "s"
        · rename_i e
          rw [el] at e
          exact absurd rfl e
        · refine ⟨a, b, xs, ys, rfl, .inl ⟨SqL.of ha, SqL.of hb, ?_⟩⟩
          refine RZ.for_zipL el (fun i σ H1 => ∃ v2 v3 v4, σ = [some (.ref a), some (.ref b), v2, v3, v4] ∧ Same H H1) ⟨_, _, _, rfl, Same.refl H⟩ ?_ ?_ ?_
          · intro i σ H1 hP
            obtain ⟨v2, v3, v4, rfl, sm⟩ := hP
            exact ⟨SqL.of (sm _ _ ha), SqL.of (sm _ _ hb)⟩
          · intro i x y t σ H1 hx hy hP ht
            obtain ⟨v2, v3, v4, rfl, sm⟩ := hP
            have hid : i < ds.length := by
              have := (List.getElem?_eq_some_iff.mp hx).1
              rw [da_len hxs] at this
              exact this
            have hdi : ds[i]? = some ds[i] := List.getElem?_eq_getElem hid
            obtain ⟨x', ex, hx'⟩ := da_get hxs hdi
            obtain ⟨y', ey, hy'⟩ := da_get hys hdi
            rw [hx] at ex
            rw [hy] at ey
            cases ex
            cases ey
            have sm2 := sm.trans (same_new (o := .tup [x, y]) ht)
            walk_at "s"
            refine ⟨x, y, ds[i], rfl, Dt.same sm2 _ _ hx', Dt.same sm2 _ _ hy', ?_, fun H2 s2 => ?_⟩
            · have := dep_get hdi
              omega
            · walk_at "s"
              exact ⟨_, _, _, rfl, sm2.trans s2⟩
          · intro σ H1 hP
            obtain ⟨v2, v3, v4, rfl, sm⟩ := hP
            walk_at "s"
            exact q _ sm
      | tuple ds =>
        unfold Dt at hx hy
        obtain ⟨a, xs, rfl, ha, hxs⟩ := hx
        obtain ⟨b, ys, rfl, hb, hys⟩ := hy
        have el : xs.length = ys.length := by rw [da_len hxs, da_len hys]
        have hd' : depAll ds + 1 < n + 1 := by
          unfold dep at hd
          exact hd
        walk_at "s"
        · rename_i e
          rw [el] at e
          exact absurd rfl e
        · refine ⟨a, b, xs, ys, rfl, .inr ⟨SqT.of ha, SqT.of hb, ?_⟩⟩
          refine RZ.for_zipT el (fun i σ H1 => ∃ v2 v3 v4, σ = [some (.ref a), some (.ref b), v2, v3, v4] ∧ Same H H1) ⟨_, _, _, rfl, Same.refl H⟩ ?_ ?_ ?_
          · intro i σ H1 hP
            obtain ⟨v2, v3, v4, rfl, sm⟩ := hP
            exact ⟨SqT.of (sm _ _ ha), SqT.of (sm _ _ hb)⟩
          · intro i x y t σ H1 hx hy hP ht
            obtain ⟨v2, v3, v4, rfl, sm⟩ := hP
            have hid : i < ds.length := by
              have := (List.getElem?_eq_some_iff.mp hx).1
              rw [da_len hxs] at this
              exact this
            have hdi : ds[i]? = some ds[i] := List.getElem?_eq_getElem hid
            obtain ⟨x', ex, hx'⟩ := da_get hxs hdi
            obtain ⟨y', ey, hy'⟩ := da_get hys hdi
            rw [hx] at ex
            rw [hy] at ey
            cases ex
            cases ey
            have sm2 := sm.trans (same_new (o := .tup [x, y]) ht)
            walk_at "s"
            refine ⟨x, y, ds[i], rfl, Dt.same sm2 _ _ hx', Dt.same sm2 _ _ hy', ?_, fun H2 s2 => ?_⟩
            · have := dep_get hdi
              omega
            · walk_at "s"
              exact ⟨_, _, _, rfl, sm2.trans s2⟩
          · intro σ H1 hP
            obtain ⟨v2, v3, v4, rfl, sm⟩ := hP
            walk_at "s"
            exact q _ sm
      | dict ds =>
        unfold Dt at hx
        exact hx.elim
end
end K00W
set_option Elab.async false
set_option linter.all false
set_option maxRecDepth 100000
set_option maxHeartbeats 4000000
/-! k00: the defs of the program and of the law. -/
namespace K00W
open PySem PySem.Spec PyProof.Rows L2 TL LW
local macro_rules | `(tactic| walk_at "ne") => `(tactic| first
  | assumption
  | exact Ne.symm (by assumption)
  | exact ne_of_none (by assumption) (by assumption)
  | exact (ne_of_none (by assumption) (by assumption)).symm
  | (apply ne_of_none; (case h' => assumption); (case h => walk_at "hp"))
  | (apply Ne.symm; apply ne_of_none; (case h' => assumption); (case h => walk_at "hp")))
local macro_rules | `(tactic| walk_at "hp") => `(tactic| first
  | assumption
  | exact upd_same
  | (refine (upd_ne ?ne).trans ?hp; (case ne => walk_at "ne"); (case hp => walk_at "hp")))
local macro_rules | `(tactic| walk_at "sq") => `(tactic| first
  | assumption
  | exact SqL.of (by assumption)
  | exact SqL.of upd_same
  | exact SqT.of (by assumption)
  | exact SqT.of upd_same
  | (refine SqL.of ?_; walk_at "hp")
  | (refine SqT.of ?_; walk_at "hp"))
local macro_rules | `(tactic| walk_at "len") => `(tactic| first
  | assumption
  | exact sz_small (by omega)
  | exact sz_less (by omega)
  | decide
  | (refine sz_small ?_; simp only [List.length_append, List.length_cons, List.length_nil, List.length_map, str_len]; omega)
  | (refine sz_less ?_; simp only [List.length_append, List.length_cons, List.length_nil, List.length_map, str_len]; omega))
local macro_rules | `(tactic| walk_at "cond") => `(tactic| first
  | assumption
  | omega
  | exact .inl ⟨by omega, by omega⟩
  | exact .inr ⟨by omega, by omega⟩
  | exact ⟨by omega, by omega⟩
  | (show (0 : Int) < _; omega)
  | (show (0 : Int) < _; decide +kernel)
  | exact ⟨by omega, by omega, by decide⟩
  | walk_at "len"
  | rfl
  | (show CMulW _ _; unfold CMulW; decide +kernel)
  | exact ⟨_, rfl⟩
  | decide +kernel
  | exact ⟨_, by walk_at "sq"⟩
  | exact .inl ⟨rfl, _, by walk_at "sq"⟩)
local macro_rules | `(tactic| walk_at "at") => `(tactic| first
  | assumption
  | exact atI_nat (by assumption)
  | exact atI_nat (j := 0) rfl
  | exact atI_nat (j := 1) rfl
  | exact atI_nat (j := 2) rfl
  | exact atI_nat (j := 3) rfl
  | exact atI_nat (j := 4) rfl)
local macro_rules | `(tactic| walk_at "ix") => `(tactic| first
  | assumption
  | (with_reducible exact ixN_0 (by simp; done))
  | (with_reducible exact ixN_1 (by simp; done))
  | (with_reducible exact ixN_2 (by simp; done))
  | (with_reducible exact Evl.ixN_nat (by assumption))
  | (with_reducible exact Evl.ixN_nat (by omega)))
local macro_rules | `(tactic| walk_at "v") => `(tactic| first
  | exact val_var rfl
  | (with_reducible exact val_c)
  | (with_reducible apply val_orV; (case ha => walk_at "v"); (case hb => walk_at "v"))
  | (with_reducible apply val_andV; (case ha => walk_at "v"); (case hb => walk_at "v"))
  | (with_reducible apply val_notV; walk_at "v")
  | (with_reducible apply val_ifS; (case h => walk_at "w"); (case ha => walk_at "v"); (case hb => walk_at "v"))
  | (with_reducible apply val_ifI; (case h => walk_at "w"); (case ha => walk_at "v"); (case hb => walk_at "v"))
  | (with_reducible apply val_ifB; (case h => walk_at "w"); (case ha => walk_at "v"); (case hb => walk_at "v"))
  | (with_reducible apply val_eqS; (case ha => walk_at "v"); (case hb => walk_at "v"))
  | (with_reducible apply val_eqI; (case ha => walk_at "v"); (case hb => walk_at "v"))
  | (with_reducible apply val_neS; (case ha => walk_at "v"); (case hb => walk_at "v"))
  | (with_reducible apply val_neI; (case ha => walk_at "v"); (case hb => walk_at "v"))
  | (with_reducible apply val_op; (case ha => walk_at "v"); (case hb => walk_at "v"); (case hr => exact fun Q q => ⟨_, _, rfl, rfl, q⟩)))
local macro_rules | `(tactic| walk_at "w") => `(tactic| first
  | (with_reducible apply ans_or2; (case h1 => walk_at "w"); (case h2 => walk_at "w"))
  | (with_reducible apply ans_and2; (case h1 => walk_at "w"); (case h2 => walk_at "w"))
  | (with_reducible apply ans_not; walk_at "w")
  | (with_reducible apply ans_test; walk_at "v")
  | (with_reducible apply ans_val; walk_at "v"))
local macro_rules | `(tactic| walk_at "s1") => `(tactic| first
  | (with_reducible refine go_c ?_)
  | (with_reducible apply go_pick; (case hs => walk_at "hp"); (case h0 => walk_at "cond"); (case h1 => walk_at "cond"); (case q => intro k a b c h0 h1))
  | (with_reducible refine go_nil ?_)
  | (with_reducible refine go_cons ?_)
  | (with_reducible refine go_call ?_)
  | (with_reducible refine go_cb ?_)
  | (with_reducible refine go_next ?_)
  | (with_reducible refine go_cont ?_)
  | (with_reducible refine go_name ?_)
  | (with_reducible refine go_seq ?_)
  | (with_reducible refine go_asg ?_)
  | (with_reducible apply go_or; (case h => walk_at "v"))
  | (with_reducible apply go_and; (case h => walk_at "v"))
  | (with_reducible apply go_ifE; (case h => walk_at "v"))
  | (with_reducible apply go_ifOr; (case h => walk_at "w"); (case' h1 => intro e); (case' h2 => intro e))
  | (with_reducible apply go_ifAnd; (case h => walk_at "w"); (case' h1 => intro e); (case' h2 => intro e))
  | refine ⟨_, rfl, ?_⟩
  | refine ⟨_, _, rfl, rfl, ?_⟩
  | (refine And.intro ?cc ?_; (case cc => walk_at "cond"))
  | refine ⟨_, _, _, _, rfl, rfl, by walk_at "sq", by walk_at "at", ?_⟩
  | refine ⟨_, _, _, _, rfl, rfl, by walk_at "hp", by walk_at "ix", ?_⟩
  | refine ⟨_, _, _, _, rfl, rfl, by walk_at "hp", by walk_at "hp", by walk_at "len", ?_⟩
  | refine ⟨_, _, _, rfl, rfl, by walk_at "len", by walk_at "at", ?_⟩
  | refine ⟨_, _, _, rfl, rfl, by walk_at "hp", by walk_at "len", ?_⟩
  | refine ⟨_, _, _, rfl, rfl, by walk_at "hp", by walk_at "at", ?_⟩
  | refine ⟨_, _, rfl, rfl, by walk_at "sq", ?_⟩
  | refine ⟨_, _, rfl, rfl, by walk_at "len", ?_⟩
  | refine ⟨_, _, rfl, by walk_at "sq", ?_⟩
  | refine ⟨_, _, rfl, .inl (by walk_at "sq"), ?_⟩
  | refine ⟨_, _, rfl, .inr (by walk_at "sq"), ?_⟩
  | refine ⟨_, _, rfl, by walk_at "sq", rfl, ?_⟩
  | refine ⟨_, fun _ _ h => h, ?_⟩
  | refine ⟨_, _, rfl, ?_⟩
  | refine .inl ⟨_, rfl, ?_⟩
  | refine ⟨_, _, .type "int", .type _, true, rfl, ClsV.ty _, .base (.int _), kit_ty (by decide +kernel), ?_⟩
  | refine ⟨_, _, .type "int", .type _, false, rfl, ClsV.ty _, .base (.int _), kit_ty (by decide +kernel), ?_⟩
  | refine ⟨_, _, .type "bool", .type _, true, rfl, ClsV.ty _, .base (.bl _), kit_ty (by decide +kernel), ?_⟩
  | refine ⟨_, _, .type "bool", .type _, false, rfl, ClsV.ty _, .base (.bl _), kit_ty (by decide +kernel), ?_⟩
  | refine ⟨_, _, .type "str", .type _, true, rfl, ClsV.ty _, .base (.str _), kit_ty (by decide +kernel), ?_⟩
  | refine ⟨_, _, .type "str", .type _, false, rfl, ClsV.ty _, .base (.str _), kit_ty (by decide +kernel), ?_⟩
  | refine ⟨_, _, .type "NoneType", .type _, true, rfl, ClsV.ty _, .base (.non), kit_ty (by decide +kernel), ?_⟩
  | refine ⟨_, _, .type "NoneType", .type _, false, rfl, ClsV.ty _, .base (.non), kit_ty (by decide +kernel), ?_⟩
  | refine ⟨_, _, .type "list", .type _, true, rfl, ClsV.ty _, .base (.lst (by walk_at "hp")), kit_ty (by decide +kernel), ?_⟩
  | refine ⟨_, _, .type "list", .type _, false, rfl, ClsV.ty _, .base (.lst (by walk_at "hp")), kit_ty (by decide +kernel), ?_⟩
  | refine ⟨_, _, .type "tuple", .type _, true, rfl, ClsV.ty _, .base (.tup (by walk_at "hp")), kit_ty (by decide +kernel), ?_⟩
  | refine ⟨_, _, .type "tuple", .type _, false, rfl, ClsV.ty _, .base (.tup (by walk_at "hp")), kit_ty (by decide +kernel), ?_⟩
  | (refine fun (p : Addr) (hp : _ = none) => ?_)
  | refine iteT ?_
  | refine iteF ?_
  | refine iteD (fun _ => ?_) (fun e => absurd rfl e)
  | refine iteS (fun e => ?_) (fun e => ?_)
  | refine iteI (fun e => ?_) (fun e => ?_)
  | refine iteSn (fun e => ?_) (fun e => ?_)
  | refine iteIn (fun e => ?_) (fun e => ?_)
  | refine iteD (fun e => ?_) (fun e => ?_)
  | refine iteDn (fun e => ?_) (fun e => ?_)
  | refine ite2 (fun e => ?_) (fun e => ?_))
local macro_rules | `(tactic| walk_at "s") => `(tactic| repeat' (walk_at "s1"))

abbrev smS : Str := Str.ofString "abcdefghijklmnopqrstuvwxyz"
abbrev fgS : Str := Str.ofString "0123456789"
abbrev sgS : Str := Str.ofString "()[],:|=+*-"
/-- the classes of signs as the program writes them -/
def C : K00.Cls := ⟨fun c => decide (c ∈ smS.cps.toList), fun c => decide (c ∈ fgS.cps.toList), fun c => decide (c ∈ sgS.cps.toList)⟩
theorem ok_C : K00.Ok C where
  dis := by
    have h : (smS.cps.toList.all fun c => !decide (c ∈ fgS.cps.toList)) = true := by decide +kernel
    intro c hc
    have := List.all_eq_true.mp h c (of_decide_eq_true hc)
    simpa [C] using this
  nl := by decide +kernel
  sp := by decide +kernel
  hs := by decide +kernel
  da := by decide +kernel
  gt := by decide +kernel

def kdS : K00.Kd → Str
  | .name => Str.ofString "name"
  | .number => Str.ofString "number"
  | .sign => Str.ofString "sign"
  | .wrong => Str.ofString "wrong"
/-- a token as Python's tuple -/
def tkD (t : K00.Tk) : PyData := .tuple [.int t.line, .int t.col, .str (kdS t.kind), .str (str t.word)]

/-! ### the tokens of a line, by its head -/
theorem lt_len {n k : Int} {f : Nat} {l : List Nat} (h : l.length ≤ f) : K00.lt C n k f l = K00.lineT C n k l := K00.lt_fuel C n _ _ _ _ h (Nat.le_refl _)
theorem lineT_nil (n k : Int) : K00.lineT C n k [] = [] := rfl
theorem lineT_hash (n k : Int) (r : List Nat) : K00.lineT C n k (35 :: r) = [] := by
  unfold K00.lineT
  rw [List.length_cons]
  unfold K00.lt
  rw [if_pos rfl]
theorem lineT_blank (n k : Int) (r : List Nat) : K00.lineT C n k (32 :: r) = K00.lineT C n (k + 1) r := by
  conv => lhs; unfold K00.lineT
  rw [List.length_cons]
  unfold K00.lt
  rw [if_neg (by decide), if_pos rfl]
  rfl
theorem lineT_name {n k : Int} {c : Nat} {r : List Nat} (h1 : c ≠ 35) (h2 : c ≠ 32) (h : C.sm c = true) :
    K00.lineT C n k (c :: r) = ⟨n, k + 1, .name, c :: (K00.span (fun c => C.sm c || C.fg c) r).1⟩ :: K00.lineT C n (k + 1 + (K00.span (fun c => C.sm c || C.fg c) r).1.length) (K00.span (fun c => C.sm c || C.fg c) r).2 := by
  conv => lhs; unfold K00.lineT
  rw [List.length_cons]
  unfold K00.lt
  have := K00.span_len (fun c => C.sm c || C.fg c) r
  rw [if_neg h1, if_neg h2, if_pos h, lt_len (by omega)]
theorem lineT_number {n k : Int} {c : Nat} {r : List Nat} (h1 : c ≠ 35) (h2 : c ≠ 32) (h : C.sm c = false) (h' : C.fg c = true) :
    K00.lineT C n k (c :: r) = ⟨n, k + 1, .number, c :: (K00.span C.fg r).1⟩ :: K00.lineT C n (k + 1 + (K00.span C.fg r).1.length) (K00.span C.fg r).2 := by
  conv => lhs; unfold K00.lineT
  rw [List.length_cons]
  unfold K00.lt
  have := K00.span_len C.fg r
  rw [if_neg h1, if_neg h2, if_neg (by rw [h]; decide), if_pos h', lt_len (by omega)]
theorem lineT_arrow {n k : Int} {r : List Nat} : K00.lineT C n k (45 :: 62 :: r) = ⟨n, k + 1, .sign, [45, 62]⟩ :: K00.lineT C n (k + 2) r := by
  conv => lhs; unfold K00.lineT
  rw [List.length_cons]
  unfold K00.lt
  rw [if_neg (by decide), if_neg (by decide), if_neg (by rw [ok_C.da.1]; decide), if_neg (by rw [ok_C.da.2.1]; decide), if_pos rfl]
  show _ :: K00.lt C n (k + 2) (62 :: r).length r = _
  rw [lt_len (by simp)]
theorem lineT_one {n k : Int} {c : Nat} {r : List Nat} (h1 : c ≠ 35) (h2 : c ≠ 32) (h : C.sm c = false) (h' : C.fg c = false) (ha : ¬ (c = 45 ∧ ∃ q, r = 62 :: q)) :
    K00.lineT C n k (c :: r) = ⟨n, k + 1, if C.sg c then .sign else .wrong, [c]⟩ :: K00.lineT C n (k + 1) r := by
  have hk : K00.kindOf C c = if C.sg c then .sign else .wrong := by simp [K00.kindOf, h, h']
  conv => lhs; unfold K00.lineT
  rw [List.length_cons]
  unfold K00.lt
  rw [if_neg h1, if_neg h2, if_neg (by rw [h]; decide), if_neg (by rw [h']; decide)]
  by_cases h5 : c = 45
  · rw [if_pos h5]
    have ha' : ∀ q, r ≠ 62 :: q := fun q e => ha ⟨h5, q, e⟩
    split
    · rename_i q
      exact absurd rfl (ha' q)
    · rw [hk, lt_len (by simp)]
  · rw [if_neg h5, hk, lt_len (by simp)]
theorem span_drop (p : Nat → Bool) (l : List Nat) : l.drop (K00.span p l).1.length = (K00.span p l).2 := by
  have h := K00.span_app p l
  have h2 := List.drop_left (l₁ := (K00.span p l).1) (l₂ := (K00.span p l).2)
  rw [h] at h2
  exact h2
theorem span_take (p : Nat → Bool) (l : List Nat) : l.take (K00.span p l).1.length = (K00.span p l).1 := by
  have h := K00.span_app p l
  have h2 := List.take_left (l₁ := (K00.span p l).1) (l₂ := (K00.span p l).2)
  rw [h] at h2
  exact h2
theorem span_yes {p : Nat → Bool} {c : Nat} {r : List Nat} (h : p c = true) : K00.span p (c :: r) = (c :: (K00.span p r).1, (K00.span p r).2) := by
  conv => lhs; unfold K00.span
  rw [if_pos h]
theorem span_no {p : Nat → Bool} {c : Nat} {r : List Nat} (h : p c = false) : K00.span p (c :: r) = ([], c :: r) := by
  conv => lhs; unfold K00.span
  rw [if_neg (by rw [h]; decide)]
theorem drop_cons {l : List Nat} {a c : Nat} (h : l[a]? = some c) : l.drop a = c :: l.drop (a + 1) := by
  obtain ⟨h1, h2⟩ := List.getElem?_eq_some_iff.mp h
  rw [List.drop_eq_getElem_cons h1, h2]

/-- a run of signs at a place -/
theorem span_at {p : Nat → Bool} {z : Str} {a c : Nat} (hc : (tl z)[a]? = some c) (h : p c = true) :
    (K00.span p ((tl z).drop a)).1.length = (K00.span p ((tl z).drop (a + 1))).1.length + 1 ∧ (tl z).drop (a + ((K00.span p ((tl z).drop (a + 1))).1.length + 1)) = (K00.span p ((tl z).drop (a + 1))).2 ∧
      a + ((K00.span p ((tl z).drop (a + 1))).1.length + 1) ≤ (tl z).length ∧
      cutS z (some (a : Int)) (some ((a + ((K00.span p ((tl z).drop (a + 1))).1.length + 1) : Nat) : Int)) = str (c :: (K00.span p ((tl z).drop (a + 1))).1) := by
  have hd := drop_cons hc
  have ha := (List.getElem?_eq_some_iff.mp hc).1
  have hsl := K00.span_len p ((tl z).drop (a + 1))
  rw [List.length_drop] at hsl
  have hle : a + ((K00.span p ((tl z).drop (a + 1))).1.length + 1) ≤ (tl z).length := by omega
  refine ⟨?_, ?_, hle, ?_⟩
  · rw [hd, span_yes h]
    rfl
  · rw [show a + ((K00.span p ((tl z).drop (a + 1))).1.length + 1) = a + 1 + (K00.span p ((tl z).drop (a + 1))).1.length by omega, ← List.drop_drop, span_drop]
  · rw [cutS_nat, show a + ((K00.span p ((tl z).drop (a + 1))).1.length + 1) - a = (K00.span p ((tl z).drop (a + 1))).1.length + 1 by omega]
    conv => lhs; rw [hd]
    rw [List.take_succ_cons, span_take]

section
variable {P : Program} {w : World} {K : PySem.W.Frag} {mg : Str → Option Value} {base : Heap}
def spRunEnd : Sp := fun vs H Q _ => ∃ (z al : Str) (a : Nat), vs = [.str z, .int a, .str al] ∧ z.length ≤ 1000000 ∧ a ≤ (tl z).length ∧
  Q (.int ((a + (K00.span (fun c => decide (c ∈ al.cps.toList)) ((tl z).drop a)).1.length : Nat) : Int)) H
theorem ok_run_end (T : Top K mg) : FnOk P w K mg base CX0 1 T.a_run_end T.d_run_end ["line", "at", "allowed"] spRunEnd := by
  refine T.F_run_end.ok sc_run_end (fun vs H Q E h => ?_) (fun cdv A outer s H vs Q E hr h => ?_)
  · obtain ⟨z, al, a, rfl, _⟩ := h
    rfl
  · obtain ⟨z, al, a, rfl, hz, ha, q⟩ := h
    refine ⟨_, (pss_cons (ps_set (i := 3) sc_run_end.nd rfl (.inl rfl) (pv 1))
    (pss_cons (ps_while PassesOwn.never (PW.pt (pw_and (pt_cmpR op_lt (pv 3) (pe_callB call_len_str (by rfl) T.m_len (by decide +kernel) (pa_cons (pv 0) pa_nil)) (nomark _)) (pw_and1 (pt_cmpR op_in_sign (pe_ix ix_str (pv 0) (pv 3) (fun _ _ => rfl)) (pv 2) (by rfl)))))
    (pss_one (ps_aug (i := 3) sc_run_end.nd rfl (.inl rfl) pe_int ip_add)))
    (pss_one (ps_ret (pv 3))))), ?_⟩
    walk_at "s"
    refine ⟨fun m σ H1 => ∃ e : Nat, σ = [some (.str z), some (.int a), some (.str al), some (.int e)] ∧ H1 = H ∧ e ≤ (tl z).length ∧ m = (tl z).length - e ∧
        e + (K00.span (fun c => decide (c ∈ al.cps.toList)) ((tl z).drop e)).1.length = a + (K00.span (fun c => decide (c ∈ al.cps.toList)) ((tl z).drop a)).1.length,
      ⟨(tl z).length - a, a, rfl, rfl, ha, rfl, rfl⟩, fun m σ H1 hW => ?_⟩
    obtain ⟨e, rfl, rfl, he, rfl, hs⟩ := hW
    have hl : z.length = (tl z).length := len_tl z
    cases hc : (tl z)[e]? with
    | none =>
      have he' := List.getElem?_eq_none_iff.mp hc
      walk_at "s"
      · omega
      · rw [List.drop_of_length_le he'] at hs
        rw [← hs] at q
        exact q
    | some c =>
      have he' := (List.getElem?_eq_some_iff.mp hc).1
      walk_at "s"
      · rename_i e1 e2
        exact ⟨_, by omega, e + 1, rfl, rfl, by omega, rfl, by
          rw [drop_cons hc, span_yes (decide_eq_true e2), List.length_cons] at hs
          omega⟩
      · rename_i e1 e2
        rw [drop_cons hc, span_no (decide_eq_false e2)] at hs
        rw [← hs] at q
        exact q
      · omega

def spLineTokens : Sp := fun vs H Q _ => ∃ (z : Str) (n : Int), vs = [.str z, .int n] ∧ z.length ≤ 100000 ∧
  ∀ (l : Addr) (xs : List V) (H' : Hp), Same H H' → H l = none → H' l = some (.lst xs) → DtAll H' xs ((K00.lineT C n 0 (tl z)).map tkD) → xs.length ≤ z.length → Q (.ref l) H'
/-- what holds between two turns of the walk along a line -/
def WL (H : Hp) (z : Str) (n : Int) (l : Addr) (m : Nat) (σ : L2.St) (H1 : Hp) : Prop := ∃ (a : Nat) (v4 v5 v6 : Option V) (xs : List V) (ts : List K00.Tk), σ = [some (.str z), some (.int n), some (.ref l), some (.int a), v4, v5, v6] ∧ a ≤ (tl z).length ∧
        Same H H1 ∧ H1 l = some (.lst xs) ∧ DtAll (wo l H1) xs (ts.map tkD) ∧ xs.length ≤ a ∧ ts ++ K00.lineT C n a ((tl z).drop a) = K00.lineT C n 0 (tl z) ∧ m = (tl z).length - a
/-- a token is appended -/
theorem tok_app {H1 : Hp} {l p : Addr} {xs : List V} {ts : List K00.Tk} {tk : K00.Tk} {n k : Int} {s1 s2 : Str} (h1 : H1 l = some (.lst xs)) (hxs : DtAll (wo l H1) xs (ts.map tkD)) (hp : H1 p = none)
    (en : n = tk.line) (ek : k = tk.col) (e1 : s1 = kdS tk.kind) (e2 : s2 = str tk.word) :
    DtAll (wo l (upd (upd H1 p (.tup [.int n, .int k, .str s1, .str s2])) l (.lst (xs ++ [.ref p])))) (xs ++ [.ref p]) ((ts ++ [tk]).map tkD) := by
  subst en ek e1 e2
  have nl : l ≠ p := ne_of_none h1 hp
  have b1 : But l H1 (upd (upd H1 p (.tup [.int tk.line, .int tk.col, .str (kdS tk.kind), .str (str tk.word)])) l (.lst (xs ++ [.ref p]))) := (But.of (same_new hp)).trans But.upd
  rw [List.map_append]
  refine da_app (DtAll.same b1.hid _ _ hxs) (da_cons (dt_tup (xs := [.int tk.line, .int tk.col, .str (kdS tk.kind), .str (str tk.word)]) ?_ (da_cons (dt_int _) (da_cons (dt_int _) (da_cons (dt_str _) (da_cons (dt_str _) da_nil))))) da_nil)
  rw [wo_ne nl.symm, upd_ne nl.symm, upd_same]
theorem WL.app {H H1 : Hp} {z : Str} {n : Int} {l p : Addr} {a a' : Nat} {v4 v5 v6 : Option V} {xs : List V} {ts : List K00.Tk} {kd : K00.Kd} {w : List Nat} {i : Int} {s1 s2 : Str}
    (hl0 : H l = none) (sm : Same H H1) (h1 : H1 l = some (.lst xs)) (hxs : DtAll (wo l H1) xs (ts.map tkD)) (hxa : xs.length ≤ a) (hts : ts ++ K00.lineT C n a ((tl z).drop a) = K00.lineT C n 0 (tl z))
    (hp : H1 p = none) (hn : K00.lineT C n a ((tl z).drop a) = ⟨n, a + 1, kd, w⟩ :: K00.lineT C n a' ((tl z).drop a')) (ha : a < a') (ha' : a' ≤ (tl z).length) (hi : i = (a' : Int)) (e1 : s1 = kdS kd) (e2 : s2 = str w) :
    ∃ m', m' < (tl z).length - a ∧ WL H z n l m' [some (.str z), some (.int n), some (.ref l), some (.int i), v4, v5, v6] (upd (upd H1 p (.tup [.int n, .int (a + 1), .str s1, .str s2])) l (.lst (xs ++ [.ref p]))) := by
  subst hi
  refine ⟨_, ?_, a', v4, v5, v6, _, ts ++ [⟨n, a + 1, kd, w⟩], rfl, ha', same_mut (sm.trans (same_new hp)) hl0, upd_same, tok_app h1 hxs hp rfl rfl e1 e2, ?_, ?_, rfl⟩
  · omega
  · simp; omega
  · rw [← hts, hn]
    simp
theorem one {H H1 : Hp} {z : Str} {n : Int} {l p : Addr} {a c : Nat} {v4 v5 v6 : Option V} {xs : List V} {ts : List K00.Tk} {i : Int} {s1 : Str}
    (hl0 : H l = none) (sm : Same H H1) (h1 : H1 l = some (.lst xs)) (hxs : DtAll (wo l H1) xs (ts.map tkD)) (hxa : xs.length ≤ a) (hts : ts ++ K00.lineT C n a ((tl z).drop a) = K00.lineT C n 0 (tl z))
    (hp : H1 p = none) (hc : (tl z)[a]? = some c) (e2 : sg c ≠ Str.ofString "#") (e3 : sg c ≠ Str.ofString " ") (e4 : ¬ c ∈ smS.cps.toList) (e5 : ¬ c ∈ fgS.cps.toList)
    (e6 : cutS z (some (a : Int)) (some ((a : Int) + 2)) ≠ Str.ofString "->") (hi : i = (a : Int) + 1) (e1 : s1 = kdS (if C.sg c then .sign else .wrong)) :
    ∃ m', m' < (tl z).length - a ∧ WL H z n l m' [some (.str z), some (.int n), some (.ref l), some (.int i), v4, v5, v6] (upd (upd H1 p (.tup [.int n, .int (a + 1), .str s1, .str (cutS z (some (a : Int)) (some i))])) l (.lst (xs ++ [.ref p]))) := by
  have sgf : ∀ {d : Nat} {s : Str}, s = sg d → sg c ≠ s → c ≠ d := fun h1 h2 e => h2 (by rw [h1, e])
  have n1 := sgf (d := 35) (by decide +kernel) e2
  have n2 := sgf (d := 32) (by decide +kernel) e3
  have hd := drop_cons hc
  have ha := (List.getElem?_eq_some_iff.mp hc).1
  subst hi
  refine WL.app (a' := a + 1) hl0 sm h1 hxs hxa hts hp (kd := if C.sg c then .sign else .wrong) (w := [c]) ?_ (by omega) (by omega) rfl e1 ?_
  · rw [hd, lineT_one n1 n2 (decide_eq_false e4) (decide_eq_false e5)]
    · rfl
    · rintro ⟨rfl, r, hr⟩
      refine e6 ?_
      have h2 : cutS z (some (a : Int)) (some ((a + 2 : Nat) : Int)) = str (((tl z).drop a).take 2) := by
        rw [cutS_nat, show a + 2 - a = 2 by omega]
      refine h2.trans ?_
      rw [hd, hr]
      exact (by decide +kernel : str [45, 62] = Str.ofString "->")
  · have h2 : cutS z (some (a : Int)) (some ((a + 1 : Nat) : Int)) = str (((tl z).drop a).take 1) := by
      rw [cutS_nat, show a + 1 - a = 1 by omega]
    refine h2.trans ?_
    rw [hd]
    rfl
theorem ok_line_tokens (T : Top K mg) : FnOk P w K mg base CX0 2 T.a_line_tokens T.d_line_tokens ["line", "number"] spLineTokens := by
  have G_run_end := ok_run_end (P := P) (w := w) (base := base) T
  refine T.F_line_tokens.ok sc_line_tokens (fun vs H Q E h => ?_) (fun cdv A outer s H vs Q E hr h => ?_)
  · obtain ⟨z, n, rfl, _⟩ := h
    rfl
  · obtain ⟨z, n, rfl, hz, q⟩ := h
    refine ⟨_, (pss_cons (ps_set (i := 2) sc_line_tokens.nd rfl (.inl rfl) (pe_lst pa_nil))
    (pss_cons (ps_set (i := 3) sc_line_tokens.nd rfl (.inl rfl) pe_int)
    (pss_cons (ps_while PassesOwn.never (PW.pt (pw_and (pt_cmpR op_lt (pv 3) (pe_callB call_len_str (by rfl) T.m_len (by decide +kernel) (pa_cons (pv 0) pa_nil)) (nomark _)) (pw_and1 (pt_cmpR op_ne (pe_ix ix_str (pv 0) (pv 3) (fun _ _ => rfl)) pe_str (nomark _)))))
    (pss_cons (ps_set (i := 4) sc_line_tokens.nd rfl (.inl rfl) (pe_ix ix_str (pv 0) (pv 3) (fun _ _ => rfl)))
    (pss_cons (ps_set (i := 5) sc_line_tokens.nd rfl (.inl rfl) (pe_op op_add (pv 3) pe_int))
    (pss_cons (ps_if (pt_cmpR op_eq (pv 4) pe_str (nomark _))
    (pss_cons (ps_set (i := 3) sc_line_tokens.nd rfl (.inl rfl) (pv 5))
    (pss_one ps_continue))
    pss_nil)
    (pss_cons (ps_if (pt_cmpR op_in_sign (pv 4) (pe_glob (v := .str (Str.ofString "abcdefghijklmnopqrstuvwxyz")) rfl T.m_SMALL ⟨_, rfl⟩) (by rfl))
    (pss_cons (ps_set (i := 5) sc_line_tokens.nd rfl (.inl rfl) (pe_call G_run_end (hr.mono (by omega)) (by rfl) T.m_run_end T.F_run_end.kp T.b_run_end .nil pass0 (pa_cons (pv 0) (pa_cons (pv 3) (pa_cons (pe_op op_add_str (pe_glob (v := .str (Str.ofString "abcdefghijklmnopqrstuvwxyz")) rfl T.m_SMALL ⟨_, rfl⟩) (pe_glob (v := .str (Str.ofString "0123456789")) rfl T.m_FIGURES ⟨_, rfl⟩)) pa_nil)))))
    (pss_one (ps_set (i := 6) sc_line_tokens.nd rfl (.inl rfl) pe_str)))
    (pss_one (ps_if (pt_cmpR op_in_sign (pv 4) (pe_glob (v := .str (Str.ofString "0123456789")) rfl T.m_FIGURES ⟨_, rfl⟩) (by rfl))
    (pss_cons (ps_set (i := 5) sc_line_tokens.nd rfl (.inl rfl) (pe_call G_run_end (hr.mono (by omega)) (by rfl) T.m_run_end T.F_run_end.kp T.b_run_end .nil pass0 (pa_cons (pv 0) (pa_cons (pv 3) (pa_cons (pe_glob (v := .str (Str.ofString "0123456789")) rfl T.m_FIGURES ⟨_, rfl⟩) pa_nil)))))
    (pss_one (ps_set (i := 6) sc_line_tokens.nd rfl (.inl rfl) pe_str)))
    (pss_one (ps_if (pt_cmpR op_eq (pe_slice sl_str (pv 0) (po_some (pv 3)) (po_some (pe_op op_add (pv 3) pe_int))) pe_str (nomark _))
    (pss_cons (ps_set (i := 5) sc_line_tokens.nd rfl (.inl rfl) (pe_op op_add (pv 3) pe_int))
    (pss_one (ps_set (i := 6) sc_line_tokens.nd rfl (.inl rfl) pe_str)))
    (pss_one (ps_set (i := 6) sc_line_tokens.nd rfl (.inl rfl) (pe_ifExp (pt_cmpR op_in_sign (pv 4) (pe_glob (v := .str (Str.ofString "()[],:|=+*-")) rfl T.m_SINGLES ⟨_, rfl⟩) (by rfl)) pe_str pe_str))))))))
    (pss_cons (ps_expr (pe_bm PySem.F.plainAttrs_list PySem.F.slot_list_append PySem.F.type_list_append mt_append (pv 2) (pa_cons (pe_tup (pa_cons (pv 1) (pa_cons (pe_op op_add (pv 3) pe_int) (pa_cons (pv 6) (pa_cons (pe_slice sl_str (pv 0) (po_some (pv 3)) (po_some (pv 5))) pa_nil))))) pa_nil)))
    (pss_one (ps_set (i := 3) sc_line_tokens.nd rfl (.inl rfl) (pv 5)))))))))
    (pss_one (ps_ret (pv 2)))))), ?_⟩
    walk_at "s"
    rename_i l hl0
    have hl : z.length = (tl z).length := len_tl z
    refine ⟨WL H z n l, ⟨(tl z).length, 0, _, _, _, [], [], rfl, by omega, same_new hl0, upd_same, da_nil, by simp, rfl, rfl⟩, fun m σ H1 hW => ?_⟩
    obtain ⟨a, v4, v5, v6, xs, ts, rfl, ha, sm, h1, hxs, hxa, hts, rfl⟩ := hW
    cases hc : (tl z)[a]? with
    | none =>
      have ha' := List.getElem?_eq_none_iff.mp hc
      walk_at "s"
      · omega
      · rw [List.drop_of_length_le ha', lineT_nil, List.append_nil] at hts
        rw [hts] at hxs
        exact q l xs H1 sm hl0 h1 (DtAll.same wo_same _ _ hxs) (by omega)
    | some c =>
      have ha' := (List.getElem?_eq_some_iff.mp hc).1
      have hd := drop_cons hc
      have sgf : ∀ {d : Nat} {s : Str}, s = sg d → sg c ≠ s → c ≠ d := fun h1 h2 e => h2 (by rw [h1, e])
      walk_at "s"
      · -- a blank
        rename_i e1 e2 e3
        have : c = 32 := (sg_eq (by decide +kernel)).mp e3
        subst this
        exact ⟨_, by omega, a + 1, _, _, _, xs, ts, rfl, by omega, sm, h1, hxs, by omega, by rw [← hts, hd, lineT_blank]; rfl, rfl⟩
      · -- a name
        rename_i e1 e2 e3 e4
        have n1 := sgf (d := 35) (by decide +kernel) e2
        have n2 := sgf (d := 32) (by decide +kernel) e3
        have hs : C.sm c = true := decide_eq_true e4
        refine ⟨z, _, a, rfl, by omega, by omega, ?_⟩
        have hp2 : (fun c => decide (c ∈ (smS ++ fgS).cps.toList)) = fun c => C.sm c || C.fg c := by
          funext d
          have : (smS ++ fgS).cps.toList = smS.cps.toList ++ fgS.cps.toList := tl_append _ _
          rw [this]
          simp [C]
        rw [hp2]
        obtain ⟨s1, s2, s3, s4⟩ := span_at (p := fun c => C.sm c || C.fg c) hc (by rw [hs]; rfl)
        rw [s1]
        walk_at "s"
        rename_i p hp
        refine WL.app (a' := a + ((K00.span (fun c => C.sm c || C.fg c) ((tl z).drop (a + 1))).1.length + 1)) hl0 sm h1 hxs hxa hts hp (kd := .name) (w := c :: (K00.span (fun c => C.sm c || C.fg c) ((tl z).drop (a + 1))).1) ?_ (by omega) s3 rfl rfl s4
        rw [hd, lineT_name n1 n2 hs, s2]
        congr 2
        omega
      · -- a number
        rename_i e1 e2 e3 e4 e5
        have n1 := sgf (d := 35) (by decide +kernel) e2
        have n2 := sgf (d := 32) (by decide +kernel) e3
        have hs : C.sm c = false := decide_eq_false e4
        have hf : C.fg c = true := decide_eq_true e5
        refine ⟨z, _, a, rfl, by omega, by omega, ?_⟩
        obtain ⟨s1, s2, s3, s4⟩ := span_at (p := C.fg) hc hf
        have hp2 : (fun c => decide (c ∈ fgS.cps.toList)) = C.fg := rfl
        rw [hp2, s1]
        walk_at "s"
        rename_i p hp
        refine WL.app (a' := a + ((K00.span C.fg ((tl z).drop (a + 1))).1.length + 1)) hl0 sm h1 hxs hxa hts hp (kd := .number) (w := c :: (K00.span C.fg ((tl z).drop (a + 1))).1) ?_ (by omega) s3 rfl rfl s4
        rw [hd, lineT_number n1 n2 hs hf, s2]
        congr 2
        omega
      · -- an arrow
        rename_i e1 e2 e3 e4 e5 e6 p hp
        have eq2 : ((tl z).drop a).take 2 = [45, 62] := by
          have h2 : cutS z (some (a : Int)) (some ((a + 2 : Nat) : Int)) = Str.ofString "->" := e6
          rw [cutS_nat, show a + 2 - a = 2 by omega] at h2
          exact str_inj (h2.trans (by decide +kernel))
        have eq3 : (tl z).drop a = 45 :: 62 :: (tl z).drop (a + 2) := by
          have := List.take_append_drop 2 ((tl z).drop a)
          rw [eq2, List.drop_drop] at this
          exact this.symm
        have len3 : a + 2 ≤ (tl z).length := by
          have := congrArg List.length eq3
          simp only [List.length_drop, List.length_cons] at this
          omega
        refine WL.app (a' := a + 2) hl0 sm h1 hxs hxa hts hp (kd := .sign) (w := [45, 62]) ?_ (by omega) len3 rfl rfl ?_
        · rw [eq3, lineT_arrow]
          rfl
        · exact e6.trans (by decide +kernel)
      · -- a sign
        rename_i e1 e2 e3 e4 e5 e6 p hp
        refine one hl0 sm h1 hxs hxa hts hp hc e2 e3 e4 e5 e6 rfl ?_
        show (if C.sg c = true then Str.ofString "sign" else Str.ofString "wrong") = _
        split <;> rfl
      · -- a remark
        rename_i e1 e2
        have : c = 35 := (sg_eq (by decide +kernel)).mp e2
        subst this
        rw [hd, lineT_hash, List.append_nil] at hts
        rw [hts] at hxs
        exact q l xs H1 sm hl0 h1 (DtAll.same wo_same _ _ hxs) (by omega)
      · omega

/-! ### the lines of a text -/
def spTextLines : Sp := fun vs H Q _ => ∃ z : Str, vs = [.str z] ∧ z.length ≤ 100000 ∧
  ∀ (l : Addr) (ys : List Str) (H' : Hp), Same H H' → H l = none → H' l = some (.lst (ys.map V.str)) → ys.map tl = K00.chop (K00.lines [] (tl z)) → Q (.ref l) H'
theorem spl_lines : ∀ (r acc : List Nat), spl [10] 0 acc r = K00.lines acc r
  | [], acc => rfl
  | c :: r, acc => by
    unfold K00.lines
    by_cases h : c = 10
    · subst h
      rw [if_pos rfl, spl_hit rfl]
      show acc :: spl [10] 0 [] r = _
      rw [spl_lines r []]
    · rw [if_neg h, spl_miss (pre_of_head _ _ h), spl_lines r (acc ++ [c])]
theorem lines_ne : ∀ (r acc : List Nat), K00.lines acc r ≠ []
  | [], acc => by simp [K00.lines]
  | c :: r, acc => by
    unfold K00.lines
    split
    · simp
    · exact lines_ne r _
theorem lines_len : ∀ (r acc : List Nat), (K00.lines acc r).length ≤ r.length + 1
  | [], acc => by simp [K00.lines]
  | c :: r, acc => by
    unfold K00.lines
    split
    · have := lines_len r []
      simp only [List.length_cons]
      omega
    · have := lines_len r (acc ++ [c])
      simp only [List.length_cons]
      omega
theorem ok_text_lines (T : Top K mg) : FnOk P w K mg base CX0 1 T.a_text_lines T.d_text_lines ["text"] spTextLines := by
  refine T.F_text_lines.ok sc_text_lines (fun vs H Q E h => ?_) (fun cdv A outer s H vs Q E hr h => ?_)
  · obtain ⟨z, rfl, _⟩ := h
    rfl
  · obtain ⟨z, rfl, hz, q⟩ := h
    refine ⟨_, (pss_cons (ps_set (i := 1) sc_text_lines.nd rfl (.inl rfl) (pe_split (pv 0) pe_str))
    (pss_cons (ps_if (pt_cmpR op_eq (pe_ix ix_list (pv 1) (pe_un un_neg pe_int) (fun _ _ => rfl)) pe_str (nomark _))
    (pss_one (ps_expr (pe_bm0 PySem.F.plainAttrs_list PySem.F.slot_list_pop PySem.F.type_list_pop mt_pop (pv 1))))
    pss_nil)
    (pss_one (ps_ret (pv 1))))), ?_⟩
    have es : (Txt.split z (Str.ofString "\n")).map tl = K00.lines [] (tl z) := by
      have h10 : tl (Str.ofString "\n") = [10] := by decide +kernel
      rw [split_spl z _ (by rw [h10]; decide) (kind_ok (by decide +kernel)), h10, spl_lines]
    have hne : Txt.split z (Str.ofString "\n") ≠ [] := fun e => by
      rw [e] at es
      exact lines_ne _ _ es.symm
    obtain ⟨as, b, eab⟩ : ∃ as b, Txt.split z (Str.ofString "\n") = as ++ [b] := ⟨_, _, (List.dropLast_concat_getLast hne).symm⟩
    rw [eab, List.map_append] at es
    walk_at "s"
    rename_i p hp
    rw [eab, List.map_append]
    refine ⟨p, _, -1, .str b, rfl, rfl, SqL.of upd_same, atI_last _ _, ?_⟩
    walk_at "s"
    · rename_i e
      have eb : tl b = [] := by rw [e]; decide +kernel
      refine ⟨p, _, .str b, rfl, rfl, upd_same, by simp, ?_⟩
      walk_at "s"
      refine q p as _ (fun x o hx => ?_) hp ?_ ?_
      · rw [upd_upd, upd_ne (ne_of_none hx hp)]
        exact hx
      · rw [upd_same]
        simp
      · unfold K00.chop
        rw [← es]
        simp [eb]
    · rename_i e
      have eb : tl b ≠ [] := fun h => e (by rw [← str_tl b, h]; decide +kernel)
      refine q p (as ++ [b]) _ (same_new hp) hp ?_ ?_
      · rw [upd_same, List.map_append]
        try rfl
      · unfold K00.chop
        rw [← es, List.map_append, if_neg]
        simpa using eb
/-! ### the tokens of a text -/
theorem fz_tk (t : K00.Tk) : fz (tkD t) = true := rfl
theorem lines_mem : ∀ (r acc : List Nat), ∀ l ∈ K00.lines acc r, l.length ≤ acc.length + r.length
  | [], acc => by simp [K00.lines]
  | c :: r, acc => by
    intro l hl
    unfold K00.lines at hl
    split at hl
    · rcases List.mem_cons.mp hl with rfl | h
      · simp only [List.length_cons]; omega
      · have := lines_mem r [] l h
        simp only [List.length_cons, List.length_nil] at this ⊢
        omega
    · have := lines_mem r _ l hl
      simp only [List.length_cons, List.length_append, List.length_nil] at this ⊢
      omega
theorem chop_mem {ls : List (List Nat)} {l : List Nat} (h : l ∈ K00.chop ls) : l ∈ ls := by
  unfold K00.chop at h
  split at h
  · exact List.dropLast_subset _ h
  · exact h
theorem chop_len (ls : List (List Nat)) : (K00.chop ls).length ≤ ls.length := by
  unfold K00.chop
  split
  · simp
  · exact Nat.le_refl _
def spTextTokens : Sp := fun vs H Q _ => ∃ z : Str, vs = [.str z] ∧ z.length ≤ 2000 ∧
  ∀ (l : Addr) (xs : List V) (H' : Hp), Same H H' → H l = none → H' l = some (.lst xs) → DtAll (wo l H') xs ((K00.lawToks C (tl z)).map tkD) → xs.length ≤ 5000000 → Q (.ref l) H'
theorem ok_text_tokens (T : Top K mg) : FnOk P w K mg base CX0 3 T.a_text_tokens T.d_text_tokens ["text"] spTextTokens := by
  have G_text_lines := ok_text_lines (P := P) (w := w) (base := base) T
  have G_line_tokens := ok_line_tokens (P := P) (w := w) (base := base) T
  refine T.F_text_tokens.ok sc_text_tokens (fun vs H Q E h => ?_) (fun cdv A outer s H vs Q E hr h => ?_)
  · obtain ⟨z, rfl, _⟩ := h
    rfl
  · obtain ⟨z, rfl, hz, q⟩ := h
    refine ⟨_, (pss_cons (ps_set (i := 1) sc_text_tokens.nd rfl (.inl rfl) (pe_lst pa_nil))
    (pss_cons (ps_set (i := 2) sc_text_tokens.nd rfl (.inl rfl) pe_int)
    (pss_cons (ps_for PassesOwn.never rfl (pi_list (pe_call G_text_lines (hr.mono (by omega)) (by rfl) T.m_text_lines T.F_text_lines.kp T.b_text_lines .nil pass0 (pa_cons (pv 0) pa_nil))) (pg_name (i := 3) sc_text_tokens.nd rfl (.inl rfl))
    (pss_cons (ps_aug (i := 2) sc_text_tokens.nd rfl (.inl rfl) pe_int ip_add)
    (pss_one (ps_expr (pe_bm PySem.F.plainAttrs_list PySem.F.slot_list_extend PySem.F.type_list_extend mt_extend (pv 1) (pa_cons (pe_call G_line_tokens (hr.mono (by omega)) (by rfl) T.m_line_tokens T.F_line_tokens.kp T.b_line_tokens .nil pass0 (pa_cons (pv 3) (pa_cons (pv 2) pa_nil))) pa_nil))))))
    (pss_one (ps_ret (pv 1)))))), ?_⟩
    walk_at "s"
    rename_i p hp
    intro l ys H1 sm0 nl hl hys
    have hpl : H1 p = some (.lst []) := sm0 _ _ upd_same
    have npl : l ≠ p := fun e => by rw [e, upd_same] at nl; cases nl
    have sm1 : Same H H1 := (same_new hp).trans sm0
    have hyl : ys.length ≤ 2001 := by
      have h1 := congrArg List.length hys
      rw [List.length_map] at h1
      have h2 := chop_len (K00.lines [] (tl z))
      have h3 := lines_len (tl z) []
      rw [len_tl] at hz
      omega
    have hym : ∀ y ∈ ys, y.length ≤ 2000 := fun y hy => by
      have h1 : tl y ∈ K00.chop (K00.lines [] (tl z)) := by
        rw [← hys]
        exact List.mem_map.mpr ⟨y, hy, rfl⟩
      have h2 := lines_mem (tl z) [] _ (chop_mem h1)
      rw [len_tl] at hz ⊢
      simpa using Nat.le_trans h2 (by simpa using hz)
    walk_at "s"
    refine for_list (xs := ys.map V.str) (fun i σ H2 => ∃ v3 xs, σ = [some (.str z), some (.ref p), some (.int i), v3] ∧ Same H H2 ∧ H2 l = some (.lst (ys.map V.str)) ∧ H2 p = some (.lst xs) ∧
      DtAll (wo p H2) xs ((K00.linesT C 0 ((ys.map tl).take i)).map tkD) ∧ xs.length ≤ i * 2000) ⟨_, [], rfl, sm1, hl, hpl, da_nil, by simp⟩ ?_ ?_ ?_
    · intro i σ H2 hi hP
      obtain ⟨v3, xs, rfl, sm, h1, h2, h3, h4⟩ := hP
      exact SqL.of h1
    · intro i x σ H2 hi hP
      obtain ⟨v3, xs, rfl, sm, h1, h2, h3, h4⟩ := hP
      obtain ⟨y, rfl, hy⟩ := map_get hi
      have hyl2 := hym y (List.mem_of_getElem? hy)
      have hi2 := (List.getElem?_eq_some_iff.mp hy).1
      walk_at "s"
      intro m zs H3 sm3 nm hm hzs lz
      have h2' := sm3 _ _ h2
      walk_at "s"
      have bp : But p H2 (upd H3 p (.lst (xs ++ zs))) := (But.of sm3).trans But.upd
      have nHp : H p = none := hp
      refine ⟨_, _, rfl, ((But.of sm).trans bp).same hp, ?_, upd_same, ?_, ?_⟩
      · rw [upd_ne npl]
        exact sm3 _ _ h1
      · have hyt : (ys.map tl)[i]? = some (tl y) := by rw [List.getElem?_map, hy]; rfl
        rw [List.take_add_one, hyt, K00.linesT_app, List.map_append]
        refine da_app (DtAll.same bp.hid _ _ h3) ?_
        have e2 : K00.linesT C (0 + ((ys.map tl).take i).length) (some (tl y)).toList = K00.lineT C ((i : Int) + 1) 0 (tl y) := by
          rw [List.length_take, List.length_map, show min i ys.length = i by omega]
          simp [K00.linesT]
        rw [e2]
        exact DtAll.ts ((Ts.upd h2').hid h2') _ _ (fzAll_map fz_tk _) hzs
      · simp only [List.length_append]
        omega
    · intro σ H2 hP
      obtain ⟨v3, xs, rfl, sm, h1, h2, h3, h4⟩ := hP
      walk_at "s"
      rw [List.length_map] at h3 h4
      rw [← List.length_map (f := tl), List.take_length, hys, K00.linesT_chop, ← K00.law_lines C ok_C] at h3
      exact q p xs H2 sm hp h2 h3 (by omega)
end
end K00W
set_option Elab.async false
set_option linter.all false
set_option maxRecDepth 100000
set_option maxHeartbeats 4000000
namespace K00W
open PySem PySem.Spec PyProof.Rows L2 TL LW
local macro_rules | `(tactic| walk_at "ne") => `(tactic| first
  | assumption
  | exact Ne.symm (by assumption)
  | exact ne_of_none (by assumption) (by assumption)
  | exact (ne_of_none (by assumption) (by assumption)).symm
  | (apply ne_of_none; (case h' => assumption); (case h => walk_at "hp"))
  | (apply Ne.symm; apply ne_of_none; (case h' => assumption); (case h => walk_at "hp")))
local macro_rules | `(tactic| walk_at "hp") => `(tactic| first
  | assumption
  | exact upd_same
  | (refine (upd_ne ?ne).trans ?hp; (case ne => walk_at "ne"); (case hp => walk_at "hp")))
local macro_rules | `(tactic| walk_at "sq") => `(tactic| first
  | assumption
  | exact SqL.of (by assumption)
  | exact SqL.of upd_same
  | exact SqT.of (by assumption)
  | exact SqT.of upd_same
  | (refine SqL.of ?_; walk_at "hp")
  | (refine SqT.of ?_; walk_at "hp"))
local macro_rules | `(tactic| walk_at "len") => `(tactic| first
  | assumption
  | exact sz_small (by omega)
  | exact sz_less (by omega)
  | decide
  | (refine sz_small ?_; simp only [List.length_append, List.length_cons, List.length_nil, List.length_map, str_len]; omega)
  | (refine sz_less ?_; simp only [List.length_append, List.length_cons, List.length_nil, List.length_map, str_len]; omega))
local macro_rules | `(tactic| walk_at "cond") => `(tactic| first
  | assumption
  | omega
  | exact .inl ⟨by omega, by omega⟩
  | exact .inr ⟨by omega, by omega⟩
  | exact ⟨by omega, by omega⟩
  | (show (0 : Int) < _; omega)
  | (show (0 : Int) < _; decide +kernel)
  | exact ⟨by omega, by omega, by decide⟩
  | walk_at "len"
  | rfl
  | (show CMulW _ _; unfold CMulW; decide +kernel)
  | exact ⟨_, rfl⟩
  | decide +kernel
  | exact ⟨_, by walk_at "sq"⟩
  | exact .inl ⟨rfl, _, by walk_at "sq"⟩)
local macro_rules | `(tactic| walk_at "at") => `(tactic| first
  | assumption
  | exact atI_nat (by assumption)
  | exact atI_nat (j := 0) rfl
  | exact atI_nat (j := 1) rfl
  | exact atI_nat (j := 2) rfl
  | exact atI_nat (j := 3) rfl
  | exact atI_nat (j := 4) rfl)
local macro_rules | `(tactic| walk_at "ix") => `(tactic| first
  | assumption
  | (with_reducible exact ixN_0 (by simp; done))
  | (with_reducible exact ixN_1 (by simp; done))
  | (with_reducible exact ixN_2 (by simp; done))
  | (with_reducible exact Evl.ixN_nat (by assumption))
  | (with_reducible exact Evl.ixN_nat (by omega)))
local macro_rules | `(tactic| walk_at "v") => `(tactic| first
  | exact val_var rfl
  | (with_reducible exact val_c)
  | (with_reducible apply val_orV; (case ha => walk_at "v"); (case hb => walk_at "v"))
  | (with_reducible apply val_andV; (case ha => walk_at "v"); (case hb => walk_at "v"))
  | (with_reducible apply val_notV; walk_at "v")
  | (with_reducible apply val_ifS; (case h => walk_at "w"); (case ha => walk_at "v"); (case hb => walk_at "v"))
  | (with_reducible apply val_ifI; (case h => walk_at "w"); (case ha => walk_at "v"); (case hb => walk_at "v"))
  | (with_reducible apply val_ifB; (case h => walk_at "w"); (case ha => walk_at "v"); (case hb => walk_at "v"))
  | (with_reducible apply val_eqS; (case ha => walk_at "v"); (case hb => walk_at "v"))
  | (with_reducible apply val_eqI; (case ha => walk_at "v"); (case hb => walk_at "v"))
  | (with_reducible apply val_neS; (case ha => walk_at "v"); (case hb => walk_at "v"))
  | (with_reducible apply val_neI; (case ha => walk_at "v"); (case hb => walk_at "v"))
  | (with_reducible apply val_op; (case ha => walk_at "v"); (case hb => walk_at "v"); (case hr => exact fun Q q => ⟨_, _, rfl, rfl, q⟩)))
local macro_rules | `(tactic| walk_at "w") => `(tactic| first
  | (with_reducible apply ans_or2; (case h1 => walk_at "w"); (case h2 => walk_at "w"))
  | (with_reducible apply ans_and2; (case h1 => walk_at "w"); (case h2 => walk_at "w"))
  | (with_reducible apply ans_not; walk_at "w")
  | (with_reducible apply ans_test; walk_at "v")
  | (with_reducible apply ans_val; walk_at "v"))
local macro_rules | `(tactic| walk_at "s1") => `(tactic| first
  | (with_reducible refine go_c ?_)
  | (with_reducible apply go_pick; (case hs => walk_at "hp"); (case h0 => walk_at "cond"); (case h1 => walk_at "cond"); (case q => intro k a b c h0 h1))
  | (with_reducible refine go_nil ?_)
  | (with_reducible refine go_cons ?_)
  | (with_reducible refine go_call ?_)
  | (with_reducible refine go_cb ?_)
  | (with_reducible refine go_next ?_)
  | (with_reducible refine go_cont ?_)
  | (with_reducible refine go_name ?_)
  | (with_reducible refine go_seq ?_)
  | (with_reducible refine go_asg ?_)
  | (with_reducible apply go_or; (case h => walk_at "v"))
  | (with_reducible apply go_and; (case h => walk_at "v"))
  | (with_reducible apply go_ifE; (case h => walk_at "v"))
  | (with_reducible apply go_ifOr; (case h => walk_at "w"); (case' h1 => intro e); (case' h2 => intro e))
  | (with_reducible apply go_ifAnd; (case h => walk_at "w"); (case' h1 => intro e); (case' h2 => intro e))
  | refine ⟨_, rfl, ?_⟩
  | refine ⟨_, _, rfl, rfl, ?_⟩
  | (refine And.intro ?cc ?_; (case cc => walk_at "cond"))
  | refine ⟨_, _, _, _, rfl, rfl, by walk_at "sq", by walk_at "at", ?_⟩
  | refine ⟨_, _, _, _, rfl, rfl, by walk_at "hp", by walk_at "ix", ?_⟩
  | refine ⟨_, _, _, _, rfl, rfl, by walk_at "hp", by walk_at "hp", by walk_at "len", ?_⟩
  | refine ⟨_, _, _, rfl, rfl, by walk_at "len", by walk_at "at", ?_⟩
  | refine ⟨_, _, _, rfl, rfl, by walk_at "hp", by walk_at "len", ?_⟩
  | refine ⟨_, _, _, rfl, rfl, by walk_at "hp", by walk_at "at", ?_⟩
  | refine ⟨_, _, rfl, rfl, by walk_at "sq", ?_⟩
  | refine ⟨_, _, rfl, rfl, by walk_at "len", ?_⟩
  | refine ⟨_, _, rfl, by walk_at "sq", ?_⟩
  | refine ⟨_, _, rfl, .inl (by walk_at "sq"), ?_⟩
  | refine ⟨_, _, rfl, .inr (by walk_at "sq"), ?_⟩
  | refine ⟨_, _, rfl, by walk_at "sq", rfl, ?_⟩
  | refine ⟨_, fun _ _ h => h, ?_⟩
  | refine ⟨_, _, rfl, ?_⟩
  | refine .inl ⟨_, rfl, ?_⟩
  | refine ⟨_, _, .type "int", .type _, true, rfl, ClsV.ty _, .base (.int _), kit_ty (by decide +kernel), ?_⟩
  | refine ⟨_, _, .type "int", .type _, false, rfl, ClsV.ty _, .base (.int _), kit_ty (by decide +kernel), ?_⟩
  | refine ⟨_, _, .type "bool", .type _, true, rfl, ClsV.ty _, .base (.bl _), kit_ty (by decide +kernel), ?_⟩
  | refine ⟨_, _, .type "bool", .type _, false, rfl, ClsV.ty _, .base (.bl _), kit_ty (by decide +kernel), ?_⟩
  | refine ⟨_, _, .type "str", .type _, true, rfl, ClsV.ty _, .base (.str _), kit_ty (by decide +kernel), ?_⟩
  | refine ⟨_, _, .type "str", .type _, false, rfl, ClsV.ty _, .base (.str _), kit_ty (by decide +kernel), ?_⟩
  | refine ⟨_, _, .type "NoneType", .type _, true, rfl, ClsV.ty _, .base (.non), kit_ty (by decide +kernel), ?_⟩
  | refine ⟨_, _, .type "NoneType", .type _, false, rfl, ClsV.ty _, .base (.non), kit_ty (by decide +kernel), ?_⟩
  | refine ⟨_, _, .type "list", .type _, true, rfl, ClsV.ty _, .base (.lst (by walk_at "hp")), kit_ty (by decide +kernel), ?_⟩
  | refine ⟨_, _, .type "list", .type _, false, rfl, ClsV.ty _, .base (.lst (by walk_at "hp")), kit_ty (by decide +kernel), ?_⟩
  | refine ⟨_, _, .type "tuple", .type _, true, rfl, ClsV.ty _, .base (.tup (by walk_at "hp")), kit_ty (by decide +kernel), ?_⟩
  | refine ⟨_, _, .type "tuple", .type _, false, rfl, ClsV.ty _, .base (.tup (by walk_at "hp")), kit_ty (by decide +kernel), ?_⟩
  | (refine fun (p : Addr) (hp : _ = none) => ?_)
  | refine iteT ?_
  | refine iteF ?_
  | refine iteD (fun _ => ?_) (fun e => absurd rfl e)
  | refine iteS (fun e => ?_) (fun e => ?_)
  | refine iteI (fun e => ?_) (fun e => ?_)
  | refine iteSn (fun e => ?_) (fun e => ?_)
  | refine iteIn (fun e => ?_) (fun e => ?_)
  | refine iteD (fun e => ?_) (fun e => ?_)
  | refine iteDn (fun e => ?_) (fun e => ?_)
  | refine ite2 (fun e => ?_) (fun e => ?_))
local macro_rules | `(tactic| walk_at "s") => `(tactic| repeat' (walk_at "s1"))

section
variable {P : Program} {w : World} {K : PySem.W.Frag} {mg : Str → Option Value} {base : Heap}
/-! ### the law's own walk -/
def glS : K00.Gl → Str
  | .no => Str.ofString ""
  | .name => Str.ofString "name"
  | .number => Str.ofString "number"
  | .sign => Str.ofString "sign"
  | .wrong => Str.ofString "wrong"
  | .dash => Str.ofString "-"
def s0 : K00.S := ⟨1, 0, .no, false, []⟩
def spATokens : Sp := fun vs H Q _ => ∃ z : Str, vs = [.str z] ∧ z.length ≤ 2000 ∧
  ∀ (l : Addr) (xs : List V) (H' : Hp), Same H H' → H l = none → H' l = some (.lst xs) → DtAll (wo l H') xs ((K00.lawToks C (tl z)).map tkD) → xs.length ≤ 2000 → Q (.ref l) H'
def WA (H : Hp) (z : Str) (l : Addr) (i : Nat) (s : K00.S) (σ : L2.St) (H1 : Hp) : Prop := ∃ (v7 v8 v9 v10 v11 : Option V) (xs : List V),
  σ = [some (.str z), some (.str smS), some (.ref l), some (.int s.line), some (.int s.col), some (.str (glS s.glue)), some (.bl s.rem), v7, v8, v9, v10, v11] ∧
    Same H H1 ∧ H1 l = some (.lst xs) ∧ DtAll (wo l H1) xs (s.found.map tkD) ∧ xs.length ≤ i ∧ K00.okGlue s ∧ ∀ t ∈ s.found, t.word.length ≤ i
theorem gl_name (g : K00.Gl) : decide (glS g = Str.ofString "name") = decide (g = .name) := by cases g <;> decide +kernel
theorem gl_number (g : K00.Gl) : decide (glS g = Str.ofString "number") = decide (g = .number) := by cases g <;> decide +kernel
theorem gl_dash (g : K00.Gl) : decide (glS g = Str.ofString "-") = decide (g = .dash) := by cases g <;> decide +kernel
theorem dec_sg {c d : Nat} {s : Str} (h : s = sg d) : decide (sg c = s) = decide (c = d) := by
  by_cases e : c = d
  · rw [decide_eq_true e, decide_eq_true ((sg_eq h).mpr e)]
  · rw [decide_eq_false e, decide_eq_false fun z => e ((sg_eq h).mp z)]
theorem joins_eq (g : K00.Gl) (c : Nat) : (decide (glS g = Str.ofString "name") && (decide (c ∈ smS.cps.toList) || decide (c ∈ fgS.cps.toList)) || (decide (glS g = Str.ofString "number") && decide (c ∈ fgS.cps.toList) ||
    decide (glS g = Str.ofString "-") && decide (sg c = Str.ofString ">"))) = K00.joins C g c := by
  rw [gl_name, gl_number, gl_dash, dec_sg (d := 62) (by decide +kernel)]
  unfold K00.joins
  rw [Bool.or_assoc]
  rfl
theorem skip_eq (r : Bool) (c : Nat) : (r || (decide (sg c = Str.ofString " ") || decide (sg c = Str.ofString "#"))) = (r || decide (c = 32) || decide (c = 35)) := by
  rw [dec_sg (d := 32) (by decide +kernel), dec_sg (d := 35) (by decide +kernel), Bool.or_assoc]
theorem kind_eq (c : Nat) : (if decide (c ∈ smS.cps.toList) = true then Str.ofString "name" else if decide (c ∈ fgS.cps.toList) = true then Str.ofString "number" else if decide (c ∈ sgS.cps.toList) = true then Str.ofString "sign" else Str.ofString "wrong") = kdS (K00.kindOf C c) := by
  show (if C.sm c = true then _ else if C.fg c = true then _ else if C.sg c = true then _ else _) = kdS (K00.kindOf C c)
  unfold K00.kindOf
  split
  · rfl
  split
  · rfl
  split <;> rfl
theorem glue_eq (c : Nat) : (if decide (sg c = Str.ofString "-") = true then Str.ofString "-" else kdS (K00.kindOf C c)) = glS (K00.glueOf C c) := by
  rw [dec_sg (d := 45) (by decide +kernel)]
  unfold K00.glueOf
  by_cases h : c = 45
  · rw [decide_eq_true h, if_pos rfl, if_pos h]
    rfl
  · rw [decide_eq_false h, if_neg (by decide), if_neg h]
    cases K00.kindOf C c <;> rfl
theorem ok_law_a_tokens (T : Top K mg) : FnOk P w K mg base CX0 1 T.a_law_a_tokens T.d_law_a_tokens ["text"] spATokens := by
  refine T.F_law_a_tokens.ok sc_law_a_tokens (fun vs H Q E h => ?_) (fun cdv A outer s H vs Q E hr h => ?_)
  · obtain ⟨z, rfl, _⟩ := h
    rfl
  · obtain ⟨z, rfl, hz, q⟩ := h
    refine ⟨_, (pss_cons (ps_set (i := 1) sc_law_a_tokens.nd rfl (.inl rfl) pe_str)
    (pss_cons (ps_set (i := 2) sc_law_a_tokens.nd rfl (.inl rfl) (pe_lst pa_nil))
    (pss_cons (ps_set (i := 3) sc_law_a_tokens.nd rfl (.inl rfl) pe_int)
    (pss_cons (ps_set (i := 4) sc_law_a_tokens.nd rfl (.inl rfl) pe_int)
    (pss_cons (ps_set (i := 5) sc_law_a_tokens.nd rfl (.inl rfl) pe_str)
    (pss_cons (ps_set (i := 6) sc_law_a_tokens.nd rfl (.inl rfl) pe_bl)
    (pss_cons (ps_for PassesOwn.never rfl (pi_str (pv 0)) (pg_name (i := 7) sc_law_a_tokens.nd rfl (.inl rfl))
    (pss_cons (ps_if (pt_cmpR op_eq (pv 7) pe_str (nomark _))
    (pss_cons (ps_set (i := 3) sc_law_a_tokens.nd rfl (.inl rfl) (pe_op op_add (pv 3) pe_int))
    (pss_cons (ps_set (i := 4) sc_law_a_tokens.nd rfl (.inl rfl) pe_int)
    (pss_cons (ps_set (i := 5) sc_law_a_tokens.nd rfl (.inl rfl) pe_str)
    (pss_cons (ps_set (i := 6) sc_law_a_tokens.nd rfl (.inl rfl) pe_bl)
    (pss_one ps_continue)))))
    pss_nil)
    (pss_cons (ps_set (i := 4) sc_law_a_tokens.nd rfl (.inl rfl) (pe_op op_add (pv 4) pe_int))
    (pss_cons (ps_if (PW.pt (pw_or (pt_val (pv 6)) (pw_or (pt_cmpR op_eq (pv 7) pe_str (nomark _)) (pw_or1 (pt_cmpR op_eq (pv 7) pe_str (nomark _))))))
    (pss_cons (ps_set (i := 6) sc_law_a_tokens.nd rfl (.inl rfl) (pe_or (pv 6) (pe_one (pe_cmpR op_eq (pv 7) pe_str (nomark _)))))
    (pss_cons (ps_set (i := 5) sc_law_a_tokens.nd rfl (.inl rfl) pe_str)
    (pss_one ps_continue)))
    pss_nil)
    (pss_cons (ps_set (i := 8) sc_law_a_tokens.nd rfl (.inl rfl) (pe_cmpR op_in_sign (pv 7) pe_str (by rfl)))
    (pss_cons (ps_set (i := 9) sc_law_a_tokens.nd rfl (.inl rfl) (pe_or (pe_and (pe_cmpR op_eq (pv 5) pe_str (nomark _)) (pe_one (pe_or (pe_cmpR op_in_sign (pv 7) (pv 1) (by rfl)) (pe_one (pv 8))))) (pe_or (pe_and (pe_cmpR op_eq (pv 5) pe_str (nomark _)) (pe_one (pv 8))) (pe_one (pe_and (pe_cmpR op_eq (pv 5) pe_str (nomark _)) (pe_one (pe_cmpR op_eq (pv 7) pe_str (nomark _))))))))
    (pss_cons (ps_if (pt_val (pv 9))
    (pss_cons (ps_set (i := 10) sc_law_a_tokens.nd rfl (.inl rfl) (pe_bm0 PySem.F.plainAttrs_list PySem.F.slot_list_pop PySem.F.type_list_pop mt_pop (pv 2)))
    (pss_cons (ps_expr (pe_bm PySem.F.plainAttrs_list PySem.F.slot_list_append PySem.F.type_list_append mt_append (pv 2) (pa_cons (pe_tup (pa_cons (pe_ix ix_tup (pv 10) pe_int (fun _ _ => rfl)) (pa_cons (pe_ix ix_tup (pv 10) pe_int (fun _ _ => rfl)) (pa_cons (pe_ix ix_tup (pv 10) pe_int (fun _ _ => rfl)) (pa_cons (pe_op op_add_str (pe_ix ix_tup (pv 10) pe_int (fun _ _ => rfl)) (pv 7)) pa_nil))))) pa_nil)))
    (pss_cons (ps_set (i := 5) sc_law_a_tokens.nd rfl (.inl rfl) (pe_ifExp (pt_cmpR op_eq (pv 7) pe_str (nomark _)) pe_str (pv 5)))
    (pss_one ps_continue))))
    pss_nil)
    (pss_cons (ps_set (i := 11) sc_law_a_tokens.nd rfl (.inl rfl) (pe_ifExp (pt_cmpR op_in_sign (pv 7) (pv 1) (by rfl)) pe_str (pe_ifExp (pt_val (pv 8)) pe_str (pe_ifExp (pt_cmpR op_in_sign (pv 7) pe_str (by rfl)) pe_str pe_str))))
    (pss_cons (ps_expr (pe_bm PySem.F.plainAttrs_list PySem.F.slot_list_append PySem.F.type_list_append mt_append (pv 2) (pa_cons (pe_tup (pa_cons (pv 3) (pa_cons (pv 4) (pa_cons (pv 11) (pa_cons (pv 7) pa_nil))))) pa_nil)))
    (pss_one (ps_set (i := 5) sc_law_a_tokens.nd rfl (.inl rfl) (pe_ifExp (pt_cmpR op_eq (pv 7) pe_str (nomark _)) pe_str (pv 11)))))))))))))
    (pss_one (ps_ret (pv 2)))))))))), ?_⟩
    walk_at "s"
    rename_i l hl0
    refine for_str (fun i σ H1 => WA H z l i (K00.walk C s0 ((tl z).take i)) σ H1) ⟨_, _, _, _, _, [], rfl, same_new hl0, upd_same, da_nil, Nat.le_refl _, fun h => by simp [K00.walk, s0] at h, fun t ht => by simp [K00.walk, s0] at ht⟩ ?_ ?_
    · intro i c σ H1 hc hP
      have es : K00.walk C s0 ((tl z).take (i + 1)) = K00.step C (K00.walk C s0 ((tl z).take i)) c := by
        rw [List.take_add_one, hc, K00.walk_app]
        rfl
      have hi : i < 2000 := by
        have := (List.getElem?_eq_some_iff.mp hc).1
        rw [len_tl] at hz
        omega
      rw [es]
      generalize K00.walk C s0 ((tl z).take i) = s at hP
      obtain ⟨v7, v8, v9, v10, v11, xs, rfl, sm, h1, h2, h3, h4, h5⟩ := hP
      walk_at "s"
      · -- a line feed
        rename_i e
        have : c = 10 := (sg_eq (by decide +kernel)).mp e
        subst this
        have es : K00.step C s 10 = { s with line := s.line + 1, col := 0, glue := .no, rem := false } := by simp [K00.step]
        rw [es]
        exact ⟨_, _, _, _, _, xs, rfl, sm, h1, h2, by omega, fun h => by simp at h, fun t ht => Nat.le_succ_of_le (h5 t ht)⟩
      · -- a sign that joins
        rename_i e1 e2 e3
        have n10 : ¬ c = 10 := fun z => e1 ((sg_eq (by decide +kernel)).mpr z)
        rw [skip_eq] at e2
        rw [joins_eq] at e3
        have es : K00.step C s c = { s with col := s.col + 1, glue := if c = 62 then .sign else s.glue, found := s.found.dropLast ++ (s.found.getLast?.toList.map fun t => K00.addTo t c) } := by
          unfold K00.step
          rw [if_neg n10, if_neg (by rw [e2]; decide), if_pos e3]
        have hok := K00.step_okGlue C s c h4
        rw [es] at hok ⊢
        have hne : s.found ≠ [] := h4 (by
          unfold K00.joins at e3
          cases hg : s.glue <;> simp_all)
        obtain ⟨f, tk, hf⟩ : ∃ f tk, s.found = f ++ [tk] := ⟨_, _, (List.dropLast_concat_getLast hne).symm⟩
        have hw := h5 tk (by rw [hf]; simp)
        rw [hf, List.map_append] at h2
        obtain ⟨ys, vv, hxs, hys, hv⟩ := da_snoc h2
        subst hxs
        have hv' := hv
        unfold tkD Dt at hv'
        obtain ⟨a, as, rfl, ha, has⟩ := hv'
        have na : a ≠ l := fun z => by rw [z, wo_self] at ha; cases ha
        rw [wo_ne na] at ha
        obtain rfl : as = [.int tk.line, .int tk.col, .str (kdS tk.kind), .str (str tk.word)] := by
          unfold DtAll at has
          obtain ⟨_, _, rfl, ha1, has⟩ := has
          unfold DtAll at has
          obtain ⟨_, _, rfl, ha2, has⟩ := has
          unfold DtAll at has
          obtain ⟨_, _, rfl, ha3, has⟩ := has
          unfold DtAll at has
          obtain ⟨_, _, rfl, ha4, has⟩ := has
          unfold DtAll at has
          subst has
          unfold Dt at ha1 ha2 ha3 ha4
          rw [ha1, ha2, ha3, ha4]
        refine ⟨l, _, .ref a, rfl, rfl, h1, by simp, ?_⟩
        rw [List.dropLast_concat]
        have ha2 : upd H1 l (.lst ys) a = some (.tup [.int tk.line, .int tk.col, .str (kdS tk.kind), .str (str tk.word)]) := by
          rw [upd_ne na]
          exact ha
        have hyl : ys.length ≤ i := by
          rw [List.length_append] at h3
          omega
        have hl2 : (str tk.word).length + (sg c).length ≤ sizeLine := sz_small (by rw [str_len]; show _ + 1 ≤ _; omega)
        walk_at "s"
        rename_i p hp
        have eg : (if decide (sg c = Str.ofString ">") = true then Str.ofString "sign" else glS s.glue) = glS (if c = 62 then .sign else s.glue) := by
          rw [dec_sg (d := 62) (by decide +kernel)]
          by_cases h : c = 62
          · rw [decide_eq_true h, if_pos rfl, if_pos h]
            rfl
          · rw [decide_eq_false h, if_neg (by decide), if_neg h]
        have el : s.found.dropLast ++ (s.found.getLast?.toList.map fun t => K00.addTo t c) = f ++ [K00.addTo tk c] := by
          rw [hf]
          simp
        rw [el] at hok ⊢
        have bl : But l H (upd (upd (upd H1 l (.lst ys)) p (.tup [.int tk.line, .int tk.col, .str (kdS tk.kind), .str (str tk.word ++ sg c)])) l (.lst (ys ++ [.ref p]))) :=
          (((But.of sm).trans But.upd).trans (.of (same_new hp))).trans But.upd
        have ht := tok_app (tk := K00.addTo tk c) (n := tk.line) (k := tk.col) (s1 := kdS tk.kind) (s2 := str tk.word ++ sg c) upd_same (DtAll.same But.upd.hid _ _ hys) hp rfl rfl rfl (str_app tk.word [c])
        refine ⟨_, _, _, _, _, ys ++ [.ref p], (by rw [← eg]; rfl), bl.same hl0, upd_same, ht, by simp; omega, hok, fun t ht => ?_⟩
        rcases List.mem_append.mp ht with h | h
        · exact Nat.le_succ_of_le (h5 t (by rw [hf]; simp [h]))
        · simp at h
          subst h
          simp [K00.addTo]
          omega
      · -- a new token
        rename_i e1 e2 e3 p hp
        have n10 : ¬ c = 10 := fun z => e1 ((sg_eq (by decide +kernel)).mpr z)
        rw [skip_eq] at e2
        rw [joins_eq] at e3
        have es : K00.step C s c = { s with col := s.col + 1, glue := K00.glueOf C c, found := s.found ++ [⟨s.line, s.col + 1, K00.kindOf C c, [c]⟩] } := by
          unfold K00.step
          rw [if_neg n10, if_neg (by rw [e2]; decide), if_neg e3]
        rw [es]
        refine ⟨_, _, _, _, _, xs ++ [.ref p], (by rw [← glue_eq, ← kind_eq]; rfl), same_mut (sm.trans (same_new hp)) hl0, upd_same, tok_app (tk := ⟨s.line, s.col + 1, K00.kindOf C c, [c]⟩) h1 h2 hp rfl rfl (kind_eq c) rfl, by simp; omega, fun _ => by simp, fun t ht => ?_⟩
        · rcases List.mem_append.mp ht with h | h
          · exact Nat.le_succ_of_le (h5 t h)
          · simp at h
            subst h
            simp
      · -- a blank, a remark
        rename_i e1 e2
        have n10 : ¬ c = 10 := fun z => e1 ((sg_eq (by decide +kernel)).mpr z)
        rw [skip_eq] at e2
        have es : K00.step C s c = { s with col := s.col + 1, glue := .no, rem := s.rem || decide (c = 35) } := by
          unfold K00.step
          rw [if_neg n10, if_pos e2]
        rw [es]
        exact ⟨_, _, _, _, _, xs, (by rw [← dec_sg (c := c) (d := 35) (s := Str.ofString "#") (by decide +kernel)]; rfl), sm, h1, h2, by omega, fun h => by simp at h, fun t ht => Nat.le_succ_of_le (h5 t ht)⟩
    · intro σ H1 hP
      obtain ⟨v7, v8, v9, v10, v11, xs, rfl, sm, h1, h2, h3, h4, h5⟩ := hP
      walk_at "s"
      rw [List.take_length] at h2
      exact q l xs H1 sm hl0 h1 h2 (by rw [len_tl] at hz; omega)
end
end K00W
set_option Elab.async false
set_option linter.all false
set_option maxRecDepth 100000
set_option maxHeartbeats 4000000
namespace K00W
open PySem PySem.Spec PyProof.Rows L2 TL LW
local macro_rules | `(tactic| walk_at "ne") => `(tactic| first
  | assumption
  | exact Ne.symm (by assumption)
  | exact ne_of_none (by assumption) (by assumption)
  | exact (ne_of_none (by assumption) (by assumption)).symm
  | (apply ne_of_none; (case h' => assumption); (case h => walk_at "hp"))
  | (apply Ne.symm; apply ne_of_none; (case h' => assumption); (case h => walk_at "hp")))
local macro_rules | `(tactic| walk_at "hp") => `(tactic| first
  | assumption
  | exact upd_same
  | (refine (upd_ne ?ne).trans ?hp; (case ne => walk_at "ne"); (case hp => walk_at "hp")))
local macro_rules | `(tactic| walk_at "sq") => `(tactic| first
  | assumption
  | exact SqL.of (by assumption)
  | exact SqL.of upd_same
  | exact SqT.of (by assumption)
  | exact SqT.of upd_same
  | (refine SqL.of ?_; walk_at "hp")
  | (refine SqT.of ?_; walk_at "hp"))
local macro_rules | `(tactic| walk_at "len") => `(tactic| first
  | assumption
  | exact sz_small (by omega)
  | exact sz_less (by omega)
  | decide
  | (refine sz_small ?_; simp only [List.length_append, List.length_cons, List.length_nil, List.length_map, str_len]; omega)
  | (refine sz_less ?_; simp only [List.length_append, List.length_cons, List.length_nil, List.length_map, str_len]; omega))
local macro_rules | `(tactic| walk_at "cond") => `(tactic| first
  | assumption
  | omega
  | exact .inl ⟨by omega, by omega⟩
  | exact .inr ⟨by omega, by omega⟩
  | exact ⟨by omega, by omega⟩
  | (show (0 : Int) < _; omega)
  | (show (0 : Int) < _; decide +kernel)
  | exact ⟨by omega, by omega, by decide⟩
  | walk_at "len"
  | rfl
  | (show CMulW _ _; unfold CMulW; decide +kernel)
  | exact ⟨_, rfl⟩
  | decide +kernel
  | exact ⟨_, by walk_at "sq"⟩
  | exact .inl ⟨rfl, _, by walk_at "sq"⟩)
local macro_rules | `(tactic| walk_at "at") => `(tactic| first
  | assumption
  | exact atI_nat (by assumption)
  | exact atI_nat (j := 0) rfl
  | exact atI_nat (j := 1) rfl
  | exact atI_nat (j := 2) rfl
  | exact atI_nat (j := 3) rfl
  | exact atI_nat (j := 4) rfl)
local macro_rules | `(tactic| walk_at "ix") => `(tactic| first
  | assumption
  | (with_reducible exact ixN_0 (by simp; done))
  | (with_reducible exact ixN_1 (by simp; done))
  | (with_reducible exact ixN_2 (by simp; done))
  | (with_reducible exact Evl.ixN_nat (by assumption))
  | (with_reducible exact Evl.ixN_nat (by omega)))
local macro_rules | `(tactic| walk_at "v") => `(tactic| first
  | exact val_var rfl
  | (with_reducible exact val_c)
  | (with_reducible apply val_orV; (case ha => walk_at "v"); (case hb => walk_at "v"))
  | (with_reducible apply val_andV; (case ha => walk_at "v"); (case hb => walk_at "v"))
  | (with_reducible apply val_notV; walk_at "v")
  | (with_reducible apply val_ifS; (case h => walk_at "w"); (case ha => walk_at "v"); (case hb => walk_at "v"))
  | (with_reducible apply val_ifI; (case h => walk_at "w"); (case ha => walk_at "v"); (case hb => walk_at "v"))
  | (with_reducible apply val_ifB; (case h => walk_at "w"); (case ha => walk_at "v"); (case hb => walk_at "v"))
  | (with_reducible apply val_eqS; (case ha => walk_at "v"); (case hb => walk_at "v"))
  | (with_reducible apply val_eqI; (case ha => walk_at "v"); (case hb => walk_at "v"))
  | (with_reducible apply val_neS; (case ha => walk_at "v"); (case hb => walk_at "v"))
  | (with_reducible apply val_neI; (case ha => walk_at "v"); (case hb => walk_at "v"))
  | (with_reducible apply val_op; (case ha => walk_at "v"); (case hb => walk_at "v"); (case hr => exact fun Q q => ⟨_, _, rfl, rfl, q⟩)))
local macro_rules | `(tactic| walk_at "w") => `(tactic| first
  | (with_reducible apply ans_or2; (case h1 => walk_at "w"); (case h2 => walk_at "w"))
  | (with_reducible apply ans_and2; (case h1 => walk_at "w"); (case h2 => walk_at "w"))
  | (with_reducible apply ans_not; walk_at "w")
  | (with_reducible apply ans_test; walk_at "v")
  | (with_reducible apply ans_val; walk_at "v"))
local macro_rules | `(tactic| walk_at "s1") => `(tactic| first
  | (with_reducible refine go_c ?_)
  | (with_reducible apply go_pick; (case hs => walk_at "hp"); (case h0 => walk_at "cond"); (case h1 => walk_at "cond"); (case' q => intro k a b c h0 h1))
  | (with_reducible refine go_nil ?_)
  | (with_reducible refine go_cons ?_)
  | (with_reducible refine go_call ?_)
  | (with_reducible refine go_cb ?_)
  | (with_reducible refine go_next ?_)
  | (with_reducible refine go_cont ?_)
  | (with_reducible refine go_name ?_)
  | (with_reducible refine go_seq ?_)
  | (with_reducible refine go_asg ?_)
  | (with_reducible apply go_or; (case h => walk_at "v"))
  | (with_reducible apply go_and; (case h => walk_at "v"))
  | (with_reducible apply go_ifE; (case h => walk_at "v"))
  | (with_reducible apply go_ifOr; (case h => walk_at "w"); (case' h1 => intro e); (case' h2 => intro e))
  | (with_reducible apply go_ifAnd; (case h => walk_at "w"); (case' h1 => intro e); (case' h2 => intro e))
  | refine ⟨_, rfl, ?_⟩
  | refine ⟨_, _, rfl, rfl, ?_⟩
  | (refine And.intro ?cc ?_; (case cc => walk_at "cond"))
  | refine ⟨_, _, _, _, rfl, rfl, by walk_at "sq", by walk_at "at", ?_⟩
  | refine ⟨_, _, _, _, rfl, rfl, by walk_at "hp", by walk_at "ix", ?_⟩
  | refine ⟨_, _, _, _, rfl, rfl, by walk_at "hp", by walk_at "hp", by walk_at "len", ?_⟩
  | refine ⟨_, _, _, rfl, rfl, by walk_at "len", by walk_at "at", ?_⟩
  | refine ⟨_, _, _, rfl, rfl, by walk_at "hp", by walk_at "len", ?_⟩
  | refine ⟨_, _, _, rfl, rfl, by walk_at "hp", by walk_at "at", ?_⟩
  | refine ⟨_, _, rfl, rfl, by walk_at "sq", ?_⟩
  | refine ⟨_, _, rfl, rfl, by walk_at "len", ?_⟩
  | refine ⟨_, _, rfl, by walk_at "sq", ?_⟩
  | refine ⟨_, _, rfl, .inl (by walk_at "sq"), ?_⟩
  | refine ⟨_, _, rfl, .inr (by walk_at "sq"), ?_⟩
  | refine ⟨_, _, rfl, by walk_at "sq", rfl, ?_⟩
  | refine ⟨_, fun _ _ h => h, ?_⟩
  | refine ⟨_, _, rfl, ?_⟩
  | refine .inl ⟨_, rfl, ?_⟩
  | refine ⟨_, _, .type "int", .type _, true, rfl, ClsV.ty _, .base (.int _), kit_ty (by decide +kernel), ?_⟩
  | refine ⟨_, _, .type "int", .type _, false, rfl, ClsV.ty _, .base (.int _), kit_ty (by decide +kernel), ?_⟩
  | refine ⟨_, _, .type "bool", .type _, true, rfl, ClsV.ty _, .base (.bl _), kit_ty (by decide +kernel), ?_⟩
  | refine ⟨_, _, .type "bool", .type _, false, rfl, ClsV.ty _, .base (.bl _), kit_ty (by decide +kernel), ?_⟩
  | refine ⟨_, _, .type "str", .type _, true, rfl, ClsV.ty _, .base (.str _), kit_ty (by decide +kernel), ?_⟩
  | refine ⟨_, _, .type "str", .type _, false, rfl, ClsV.ty _, .base (.str _), kit_ty (by decide +kernel), ?_⟩
  | refine ⟨_, _, .type "NoneType", .type _, true, rfl, ClsV.ty _, .base (.non), kit_ty (by decide +kernel), ?_⟩
  | refine ⟨_, _, .type "NoneType", .type _, false, rfl, ClsV.ty _, .base (.non), kit_ty (by decide +kernel), ?_⟩
  | refine ⟨_, _, .type "list", .type _, true, rfl, ClsV.ty _, .base (.lst (by walk_at "hp")), kit_ty (by decide +kernel), ?_⟩
  | refine ⟨_, _, .type "list", .type _, false, rfl, ClsV.ty _, .base (.lst (by walk_at "hp")), kit_ty (by decide +kernel), ?_⟩
  | refine ⟨_, _, .type "tuple", .type _, true, rfl, ClsV.ty _, .base (.tup (by walk_at "hp")), kit_ty (by decide +kernel), ?_⟩
  | refine ⟨_, _, .type "tuple", .type _, false, rfl, ClsV.ty _, .base (.tup (by walk_at "hp")), kit_ty (by decide +kernel), ?_⟩
  | (refine fun (p : Addr) (hp : _ = none) => ?_)
  | refine iteT ?_
  | refine iteF ?_
  | refine iteD (fun _ => ?_) (fun e => absurd rfl e)
  | refine iteS (fun e => ?_) (fun e => ?_)
  | refine iteI (fun e => ?_) (fun e => ?_)
  | refine iteSn (fun e => ?_) (fun e => ?_)
  | refine iteIn (fun e => ?_) (fun e => ?_)
  | refine iteD (fun e => ?_) (fun e => ?_)
  | refine iteDn (fun e => ?_) (fun e => ?_)
  | refine ite2 (fun e => ?_) (fun e => ?_))
local macro_rules | `(tactic| walk_at "s") => `(tactic| repeat' (walk_at "s1"))

section
variable {P : Program} {w : World} {K : PySem.W.Frag} {mg : Str → Option Value} {base : Heap}
def menusL : List Str := ["abcdefghijklmnopqrstuvwxyz", "0123456789", "->-->", "()[],:|=+*-", " \n", "#", "  \n", "ABZ_.;!?'/~<>@&^"]
theorem menus_ok : ∀ x ∈ menusL, 0 < x.length ∧ x.length ≤ 26 := by decide +kernel
theorem tk_tuple {H : Hp} {v : V} {t : K00.Tk} (h : Dt H v (tkD t)) : ∃ a, v = .ref a ∧ H a = some (.tup [.int t.line, .int t.col, .str (kdS t.kind), .str (str t.word)]) := by
  unfold tkD Dt at h
  obtain ⟨a, as, rfl, ha, has⟩ := h
  refine ⟨a, rfl, ?_⟩
  rw [ha]
  unfold DtAll at has
  obtain ⟨_, _, rfl, ha1, has⟩ := has
  unfold DtAll at has
  obtain ⟨_, _, rfl, ha2, has⟩ := has
  unfold DtAll at has
  obtain ⟨_, _, rfl, ha3, has⟩ := has
  unfold DtAll at has
  obtain ⟨_, _, rfl, ha4, has⟩ := has
  unfold DtAll at has
  subst has
  unfold Dt at ha1 ha2 ha3 ha4
  rw [ha1, ha2, ha3, ha4]
def spLaw (K : PySem.W.Frag) : Sp := fun vs H Q _ => ∃ (a : Addr) (ns : List Int), vs = [.ref a] ∧ SqL K H a (ns.map V.int) ∧ ns.length ≤ 63 ∧ ∀ H', Q (.bl true) H'
theorem ok_law (T : Top K mg) : FnOk P w K mg base CX0 5 T.a_law T.d_law ["script"] (spLaw K) := by
  have G_law_source := ok_source (P := P) (w := w) (base := base) T
  have G_law_pick := ok_pick (P := P) (w := w) (base := base) T
  have G_law_same := ok_same (P := P) (w := w) (base := base) T 3
  have G_text_tokens := ok_text_tokens (P := P) (w := w) (base := base) T
  have G_law_a_tokens := ok_law_a_tokens (P := P) (w := w) (base := base) T
  refine T.F_law.ok sc_law (fun vs H Q E h => ?_) (fun cdv A outer s H vs Q E hr h => ?_)
  · obtain ⟨a, ns, rfl, _⟩ := h
    rfl
  · obtain ⟨a, ns, rfl, hS, hn, q⟩ := h
    refine ⟨_, (pss_cons (ps_set (i := 1) sc_law.nd rfl (.inl rfl) (pe_call G_law_source (hr.mono (by omega)) (by rfl) T.m_law_source T.F_law_source.kp T.b_law_source .nil pass0 (pa_cons (pv 0) (pa_cons pe_int pa_nil))))
    (pss_cons (ps_set (i := 2) sc_law.nd rfl (.inl rfl) (pe_lst (pa_cons pe_str (pa_cons pe_str (pa_cons pe_str (pa_cons pe_str (pa_cons pe_str (pa_cons pe_str (pa_cons pe_str (pa_cons pe_str pa_nil))))))))))
    (pss_cons (ps_set (i := 3) sc_law.nd rfl (.inl rfl) (pe_lst (pa_cons pe_int (pa_cons pe_int (pa_cons pe_int (pa_cons pe_int (pa_cons pe_int (pa_cons pe_int (pa_cons pe_int (pa_cons pe_int (pa_cons pe_int (pa_cons pe_int (pa_cons pe_int (pa_cons pe_int pa_nil))))))))))))))
    (Evl.pss_cut (ps_if (pt_cmpR op_eq (pe_call G_law_pick (hr.mono (by omega)) (by rfl) T.m_law_pick T.F_law_pick.kp T.b_law_pick .nil pass0 (pa_cons (pv 1) (pa_cons pe_int pa_nil))) pe_int (nomark _))
    (pss_one (ps_set (i := 3) sc_law.nd rfl (.inl rfl) (pe_op op_cat (pv 3) (pe_lst (pa_cons pe_int pa_nil)))))
    pss_nil)
    (pss_cons (ps_set (i := 4) sc_law.nd rfl (.inl rfl) pe_str)
    (Evl.pss_cut (ps_for PassesOwn.never rfl (pi_range1 rfl T.m_range (pa_cons (pe_call G_law_pick (hr.mono (by omega)) (by rfl) T.m_law_pick T.F_law_pick.kp T.b_law_pick .nil pass0 (pa_cons (pv 1) (pa_cons pe_int pa_nil))) pa_nil)) (pg_name (i := 5) sc_law.nd rfl (.inl rfl))
    (pss_cons (ps_set (i := 6) sc_law.nd rfl (.inl rfl) (pe_ix ix_list (pv 2) (pe_ix ix_list (pv 3) (pe_call G_law_pick (hr.mono (by omega)) (by rfl) T.m_law_pick T.F_law_pick.kp T.b_law_pick .nil pass0 (pa_cons (pv 1) (pa_cons (pe_callB call_len_seq (by rfl) T.m_len (by decide +kernel) (pa_cons (pv 3) pa_nil)) pa_nil))) (fun _ _ => rfl)) (fun _ _ => rfl)))
    (pss_one (ps_set (i := 4) sc_law.nd rfl (.inl rfl) (pe_op op_add_str (pv 4) (pe_ix ix_str (pv 6) (pe_call G_law_pick (hr.mono (by omega)) (by rfl) T.m_law_pick T.F_law_pick.kp T.b_law_pick .nil pass0 (pa_cons (pv 1) (pa_cons (pe_callB call_len_str (by rfl) T.m_len (by decide +kernel) (pa_cons (pv 6) pa_nil)) pa_nil))) (fun _ _ => rfl)))))))
    (Evl.pss_cut (ps_if (pt_cmpR op_eq (pe_call G_law_pick (hr.mono (by omega)) (by rfl) T.m_law_pick T.F_law_pick.kp T.b_law_pick .nil pass0 (pa_cons (pv 1) (pa_cons pe_int pa_nil))) pe_int (nomark _))
    (pss_cons (ps_set (i := 7) sc_law.nd rfl (.inl rfl) (pe_op op_add_str (pv 4) pe_str))
    (pss_one (ps_for PassesOwn.never rfl (pi_range1 rfl T.m_range (pa_cons (pe_op op_add pe_int (pe_call G_law_pick (hr.mono (by omega)) (by rfl) T.m_law_pick T.F_law_pick.kp T.b_law_pick .nil pass0 (pa_cons (pv 1) (pa_cons pe_int pa_nil)))) pa_nil)) (pg_name (i := 8) sc_law.nd rfl (.inl rfl))
    (pss_one (ps_set (i := 4) sc_law.nd rfl (.inl rfl) (pe_op op_add_str (pv 4) (pv 7)))))))
    pss_nil)
    (pss_cons (ps_set (i := 9) sc_law.nd rfl (.inl rfl) (pe_call G_law_a_tokens (hr.mono (by omega)) (by rfl) T.m_law_a_tokens T.F_law_a_tokens.kp T.b_law_a_tokens .nil pass0 (pa_cons (pv 4) pa_nil)))
    (pss_cons (ps_set (i := 10) sc_law.nd rfl (.inl rfl) (pe_call G_text_tokens (hr.mono (by omega)) (by rfl) T.m_text_tokens T.F_text_tokens.kp T.b_text_tokens .nil pass0 (pa_cons (pv 4) pa_nil)))
    (pss_cons (ps_if (pt_not (pt_val (pe_call G_law_same (hr.mono (by omega)) (by rfl) T.m_law_same T.F_law_same.kp T.b_law_same .nil pass0 (pa_cons (pv 10) (pa_cons (pv 9) pa_nil)))))
    (pss_one (ps_ret pe_bl))
    pss_nil)
    (pss_cons (ps_set (i := 11) sc_law.nd rfl (.inl rfl) (pe_call G_text_tokens (hr.mono (by omega)) (by rfl) T.m_text_tokens T.F_text_tokens.kp T.b_text_tokens .nil pass0 (pa_cons (pe_op op_add_str pe_str (pv 4)) pa_nil)))
    (pss_cons (ps_expr (pe_bm PySem.F.plainAttrs_list PySem.F.slot_list_append PySem.F.type_list_append mt_append (pv 10) (pa_cons pe_int pa_nil)))
    (pss_cons (ps_if (pt_not (pt_val (pe_call G_law_same (hr.mono (by omega)) (by rfl) T.m_law_same T.F_law_same.kp T.b_law_same .nil pass0 (pa_cons (pe_call G_text_tokens (hr.mono (by omega)) (by rfl) T.m_text_tokens T.F_text_tokens.kp T.b_text_tokens .nil pass0 (pa_cons (pv 4) pa_nil)) (pa_cons (pv 9) pa_nil)))))
    (pss_one (ps_ret pe_bl))
    pss_nil)
    (pss_cons (ps_set (i := 12) sc_law.nd rfl (.inl rfl) (pe_lst (pa_cons (pe_tup (pa_cons pe_int (pa_cons pe_int (pa_cons pe_str (pa_cons pe_str pa_nil))))) pa_nil)))
    (pss_cons (ps_for PassesOwn.never rfl (pi_list (pv 9)) (pg_tup rfl (pgs_cons (pg_name (i := 13) sc_law.nd rfl (.inl rfl)) (pgs_cons (pg_name (i := 14) sc_law.nd rfl (.inl rfl)) (pgs_cons (pg_name (i := 15) sc_law.nd rfl (.inl rfl)) (pgs_cons (pg_name (i := 16) sc_law.nd rfl (.inl rfl)) pgs_nil)))))
    (pss_one (ps_expr (pe_bm PySem.F.plainAttrs_list PySem.F.slot_list_append PySem.F.type_list_append mt_append (pv 12) (pa_cons (pe_tup (pa_cons (pv 13) (pa_cons (pe_ifExp (pt_cmpR op_eq (pv 13) pe_int (nomark _)) (pe_op op_add (pv 14) pe_int) (pv 14)) (pa_cons (pv 15) (pa_cons (pv 16) pa_nil))))) pa_nil)))))
    (pss_one (ps_ret (pe_call G_law_same (hr.mono (by omega)) (by rfl) T.m_law_same T.F_law_same.kp T.b_law_same .nil pass0 (pa_cons (pv 11) (pa_cons (pv 12) pa_nil)))))))))))))))))))), ?_⟩
    walk_at "s"
    refine ⟨a, ns, 0, rfl, hS, hn, by omega, fun s c1 c2 c3 H1 sm1 ns1 hs1 => ?_⟩
    walk_at "s"
    rename_i m hm w hw
    have hm1 := upd_same (H := H1) (a := m) (o := .lst (menusL.map V.str))
    have nsm : s ≠ m := ne_of_none hs1 hm
    have nmw : m ≠ w := ne_of_none (H := upd H1 m (.lst (menusL.map V.str))) upd_same hw
    have nsw : s ≠ w := ne_of_none (H := upd H1 m (.lst (menusL.map V.str))) ((upd_ne nsm).trans hs1) hw
    -- the weights
    refine ⟨fun σ H2 => ∃ (w2 : Addr) (ws : List Int) (c1 c2 c3 : Int), σ = [some (.ref a), some (.ref s), some (.ref m), some (.ref w2), none, none, none, none, none, none, none, none, none, none, none, none, none] ∧
      H2 s = some (.lst [.int c1, .int c2, .int c3]) ∧ H2 m = some (.lst (menusL.map V.str)) ∧ H2 w2 = some (.lst (ws.map V.int)) ∧ s ≠ m ∧ s ≠ w2 ∧ m ≠ w2 ∧ 0 < ws.length ∧ ws.length ≤ 13 ∧ ∀ x ∈ ws, 0 ≤ x ∧ x < 8, ?_, fun σ H2 hP => ?_⟩
    · walk_at "s"
      · exact ⟨_, [0, 0, 0, 1, 1, 2, 3, 3, 4, 4, 6, 7, 5], _, _, _, rfl, by walk_at "hp", by walk_at "hp", by walk_at "hp", by walk_at "ne", by walk_at "ne", by walk_at "ne", by decide, by decide, by decide⟩
      · exact ⟨_, [0, 0, 0, 1, 1, 2, 3, 3, 4, 4, 6, 7], _, _, _, rfl, by walk_at "hp", by walk_at "hp", by walk_at "hp", by walk_at "ne", by walk_at "ne", by walk_at "ne", by decide, by decide, by decide⟩
    obtain ⟨w2, ws, d1, d2, d3, rfl, h1, h2, h3, n1, n2, n3, hw0, hw1, hw2⟩ := hP
    walk_at "s"
    -- the text, sign by sign
    refine ⟨fun σ H3 => ∃ (z : Str) (c1 c2 c3 : Int) (v5 v6 : Option V), σ = [some (.ref a), some (.ref s), some (.ref m), some (.ref w2), some (.str z), v5, v6, none, none, none, none, none, none, none, none, none, none] ∧ z.length ≤ 90 ∧
      H3 s = some (.lst [.int c1, .int c2, .int c3]), ?_, fun σ H3 hP => ?_⟩
    · walk_at "s"
      rename_i k e1 e2 e3 k0 k1
      refine for_range (lo := 0) (n := k.toNat) (fun i σ H3 => ∃ (z : Str) (c1 c2 c3 : Int) (v5 v6 : Option V), σ = [some (.ref a), some (.ref s), some (.ref m), some (.ref w2), some (.str z), v5, v6, none, none, none, none, none, none, none, none, none, none] ∧ z.length ≤ i ∧
        H3 s = some (.lst [.int c1, .int c2, .int c3]) ∧ H3 m = some (.lst (menusL.map V.str)) ∧ H3 w2 = some (.lst (ws.map V.int))) ⟨_, _, _, _, _, _, rfl, Nat.le_refl _, by walk_at "hp", by walk_at "hp", by walk_at "hp"⟩ ?_ ?_
      · intro i σ H3 hi hP
        obtain ⟨z, c1, c2, c3, v5, v6, rfl, hz, g1, g2, g3⟩ := hP
        have hwl : (0 : Int) < ((ws.map V.int).length : Int) := by rw [List.length_map]; omega
        have hwl2 : ((ws.map V.int).length : Int) < 1073741824 := by rw [List.length_map]; omega
        walk_at "s"
        rename_i kw b1 b2 b3 kw0 kw1
        obtain ⟨wv, hwv, hat⟩ := atI_map (f := V.int) (ms := ws) kw0 (by rw [List.length_map] at kw1; exact kw1)
        refine ⟨w2, _, _, _, rfl, rfl, by walk_at "sq", hat, ?_⟩
        have hwr := hw2 wv (List.mem_of_getElem? hwv)
        obtain ⟨mv, hmv, hat2⟩ := atI_map (f := V.str) (ms := menusL) hwr.1 (by show wv < 8; exact hwr.2)
        refine ⟨m, _, _, _, rfl, rfl, by walk_at "sq", hat2, ?_⟩
        have hml := menus_ok mv (List.mem_of_getElem? hmv)
        walk_at "s"
        rename_i ks b4 b5 b6 ks0 ks1
        have hat3 := atI_lt (xs := mv.cps.toList) ks0 (by
          have := len_tl mv
          unfold tl at this
          omega)
        refine ⟨mv, ks, _, rfl, rfl, sz_small (by omega), hat3, ?_⟩
        walk_at "s"
        refine ⟨_, _, _, _, _, _, rfl, ?_, by walk_at "hp", by walk_at "hp", by walk_at "hp"⟩
        rw [len_tl, tl_append, List.length_append, ← len_tl]
        show z.length + 1 ≤ i + 1
        omega
      · intro σ H3 hP
        obtain ⟨z, c1, c2, c3, v5, v6, rfl, hz, g1, g2, g3⟩ := hP
        exact ⟨z, c1, c2, c3, v5, v6, rfl, by omega, g1⟩
    obtain ⟨z, c1, c2, c3, v5, v6, rfl, hz, g1⟩ := hP
    -- the text many times
    refine ⟨fun σ H4 => ∃ (z : Str) (v5 v6 v7 v8 : Option V), σ = [some (.ref a), some (.ref s), some (.ref m), some (.ref w2), some (.str z), v5, v6, v7, v8, none, none, none, none, none, none, none, none] ∧ z.length ≤ 1500, ?_, fun σ H4 hP => ?_⟩
    · have hz2 : z.length + (Str.ofString "\n").length ≤ sizeLine := sz_small (by rw [show (Str.ofString "\n").length = 1 by decide +kernel]; omega)
      walk_at "s"
      · rename_i k0 b1 b2 b3 k1 k2 e0 k b4 b5 b6 kp kl
        have hlz : (z ++ Str.ofString "\n").length ≤ 91 := by
          rw [len_tl, tl_append, List.length_append, ← len_tl, ← len_tl, show (Str.ofString "\n").length = 1 by decide +kernel]
          omega
        refine for_range (lo := 0) (n := (1 + k).toNat) (fun i σ H3 => ∃ (z' : Str) (v8 : Option V), σ = [some (.ref a), some (.ref s), some (.ref m), some (.ref w2), some (.str z'), v5, v6, some (.str (z ++ Str.ofString "\n")), v8, none, none, none, none, none, none, none, none] ∧ z'.length ≤ 90 + 91 * i) ⟨z, _, rfl, by omega⟩ ?_ ?_
        · intro i σ H3 hi hP
          obtain ⟨z', v8, rfl, hz'⟩ := hP
          have hlen : z'.length + (z ++ Str.ofString "\n").length ≤ sizeLine := sz_small (by omega)
          walk_at "s"
          show (z' ++ (z ++ Str.ofString "\n")).length ≤ 90 + 91 * (i + 1)
          rw [len_tl, tl_append, List.length_append, ← len_tl, ← len_tl]
          omega
        · intro σ H3 hP
          obtain ⟨z', v8, rfl, hz'⟩ := hP
          exact ⟨z', _, _, _, _, rfl, by omega⟩
      · exact ⟨z, _, _, _, _, rfl, by omega⟩
    obtain ⟨z, v5, v6, v7, v8, rfl, hz⟩ := hP
    have hx1 : (Str.ofString "x1 ").length + z.length ≤ sizeLine := sz_small (by rw [show (Str.ofString "x1 ").length = 3 by decide +kernel]; omega)
    have hx2 : (Str.ofString "x1 " ++ z).length ≤ 2000 := by
      rw [len_tl, tl_append, List.length_append, ← len_tl, ← len_tl, show (Str.ofString "x1 ").length = 3 by decide +kernel]
      omega
    have ex1 : K00.lawToks C (tl (Str.ofString "x1 " ++ z)) = ⟨1, 1, .name, [120, 49]⟩ :: (K00.lawToks C (tl z)).map K00.moved := by
      rw [tl_append, show tl (Str.ofString "x1 ") = [120, 49, 32] by decide +kernel]
      exact K00.law_x1 C (by decide +kernel) (by decide +kernel) _
    have hdep : ∀ ts : List K00.Tk, dep (.list (ts.map tkD)) < 3 := fun ts => by
      have : ∀ ts : List K00.Tk, depAll (ts.map tkD) ≤ 1 := fun ts => by
        induction ts with
        | nil => exact Nat.zero_le _
        | cons t r ih =>
          show max (dep (tkD t)) (depAll (r.map tkD)) ≤ 1
          exact Nat.max_le.mpr ⟨Nat.le_refl _, ih⟩
      have h := this ts
      unfold dep
      omega
    walk_at "s"
    intro d xd H5 sm5 nd hd5 hxd lxd
    have hxd := DtAll.same wo_same _ _ hxd
    walk_at "s"
    intro f xf H6 sm6 nf hf6 hxf lxf
    have hd6 := sm6 _ _ hd5
    have hxd := DtAll.same sm6 _ _ hxd
    have hxf := DtAll.same wo_same _ _ hxf
    have nfd : d ≠ f := ne_of_none hd5 nf
    walk_at "s"
    refine ⟨_, _, .list ((K00.lawToks C (tl z)).map tkD), rfl, dt_list hf6 hxf, dt_list hd6 hxd, hdep _, fun H7 sm7 => ?_⟩
    have hd7 := sm7 _ _ hd6
    have hf7 := sm7 _ _ hf6
    have hxd := DtAll.same sm7 _ _ hxd
    walk_at "s"
    intro o xo H8 sm8 no ho8 hxo lxo
    have hd8 := sm8 _ _ hd7
    have hf8 := sm8 _ _ hf7
    have hxd := DtAll.same sm8 _ _ hxd
    have hxo := DtAll.same wo_same _ _ hxo
    have nof : f ≠ o := ne_of_none hf7 no
    walk_at "s"
    intro g xg H9 sm9 ng hg9 hxg lxg
    have hd9 := sm9 _ _ ((upd_ne nfd).trans hd8)
    have ho9 := sm9 _ _ ((upd_ne nof.symm).trans ho8)
    have hxd := DtAll.ts ((Ts.upd hf8).trans (.of sm9)) _ _ (fzAll_map fz_tk _) hxd
    have hxo := DtAll.ts ((Ts.upd hf8).trans (.of sm9)) _ _ (fzAll_map fz_tk _) hxo
    have hxg := DtAll.same wo_same _ _ hxg
    walk_at "s"
    refine ⟨_, _, .list ((K00.lawToks C (tl z)).map tkD), rfl, dt_list hg9 hxg, dt_list hd9 hxd, hdep _, fun HA smA => ?_⟩
    have hdA := smA _ _ hd9
    have hoA := smA _ _ ho9
    have hxd := DtAll.same smA _ _ hxd
    have hxo := DtAll.same smA _ _ hxo
    walk_at "s"
    rename_i p hp l hl
    have smB := (same_new (o := .tup [.int 1, .int 1, .str (Str.ofString "name"), .str (Str.ofString "x1")]) hp).trans (same_new (o := .lst [.ref p]) hl)
    have hlA : HA l = none := (same_new hp).free hl
    have npl : p ≠ l := ne_of_none upd_same hl
    have hdB := smB _ _ hdA
    refine ⟨⟨_, SqL.of hdB⟩, ?_⟩
    refine for_list (xs := xd) (fun i σ H' => ∃ (v13 v14 v15 v16 : Option V) (xs : List V), σ = [some (.ref a), some (.ref s), some (.ref m), some (.ref w2), some (.str z), v5, v6, v7, v8, some (.ref d), some (.ref f), some (.ref o), some (.ref l), v13, v14, v15, v16] ∧
      Same HA H' ∧ H' l = some (.lst xs) ∧ xs.length ≤ i + 1 ∧ DtAll (wo l H') xs ((⟨1, 1, .name, [120, 49]⟩ :: ((K00.lawToks C (tl z)).take i).map K00.moved).map tkD)) ⟨_, _, _, _, [.ref p], rfl, smB, upd_same, by simp, ?_⟩ ?_ ?_ ?_
    · refine da_cons (dt_tup (xs := [.int 1, .int 1, .str (Str.ofString "name"), .str (Str.ofString "x1")]) ?_ ?_) da_nil
      · rw [wo_ne npl, upd_ne npl, upd_same]
      · exact da_cons (dt_int _) (da_cons (dt_int _) (da_cons (dt_str _) (da_cons (by unfold Dt; decide +kernel) da_nil)))
    · intro i σ H' hi hP
      obtain ⟨v13, v14, v15, v16, xs, rfl, sm, h1, h2, h3⟩ := hP
      exact SqL.of (sm _ _ hdA)
    · intro i x σ H' hi hP
      obtain ⟨v13, v14, v15, v16, xs, rfl, sm, h1, h2, h3⟩ := hP
      have hlen := da_len hxd
      rw [List.length_map] at hlen
      have hi2 := (List.getElem?_eq_some_iff.mp hi).1
      have hti : (K00.lawToks C (tl z))[i]? = some ((K00.lawToks C (tl z))[i]'(by omega)) := List.getElem?_eq_getElem _
      generalize (K00.lawToks C (tl z))[i]'(by omega) = t at hti
      obtain ⟨x', ex, hx'⟩ := da_get hxd (i := i) (d := tkD t) (by rw [List.getElem?_map, hti]; rfl)
      rw [hi] at ex
      cases ex
      obtain ⟨q', rfl, hq⟩ := tk_tuple hx'
      have hq2 := sm _ _ hq
      have ets : (⟨1, 1, .name, [120, 49]⟩ :: ((K00.lawToks C (tl z)).take (i + 1)).map K00.moved : List K00.Tk) = (⟨1, 1, .name, [120, 49]⟩ :: ((K00.lawToks C (tl z)).take i).map K00.moved) ++ [K00.moved t] := by
        rw [List.take_add_one, hti]
        simp
      walk_at "s"
      · rename_i e p' hp'
        have ht := tok_app (tk := K00.moved t) (n := t.line) (k := t.col + 3) (s1 := kdS t.kind) (s2 := str t.word) h1 h3 hp' rfl (by simp [K00.moved, e]) rfl rfl
        rw [← ets] at ht
        exact ⟨_, _, _, _, xs ++ [.ref p'], rfl, same_mut (sm.trans (same_new hp')) hlA, upd_same, by simp; omega, ht⟩
      · rename_i e p' hp'
        have ht := tok_app (tk := K00.moved t) (n := t.line) (k := t.col) (s1 := kdS t.kind) (s2 := str t.word) h1 h3 hp' rfl (by simp [K00.moved, e]) rfl rfl
        rw [← ets] at ht
        exact ⟨_, _, _, _, xs ++ [.ref p'], rfl, same_mut (sm.trans (same_new hp')) hlA, upd_same, by simp; omega, ht⟩
    · intro σ H' hP
      obtain ⟨v13, v14, v15, v16, xs, rfl, sm, h1, h2, h3⟩ := hP
      have hlen := da_len hxd
      rw [List.length_map] at hlen
      walk_at "s"
      refine ⟨_, _, .list ((K00.lawToks C (tl (Str.ofString "x1 " ++ z))).map tkD), rfl, dt_list (sm _ _ hoA) (DtAll.same sm _ _ hxo), ?_, hdep _, fun HB smB => q _⟩
      rw [ex1]
      rw [List.take_of_length_le (by omega)] at h3
      exact dt_list h1 (DtAll.same wo_same _ _ h3)
end
end K00W
set_option Elab.async false
set_option linter.all false
set_option maxRecDepth 100000
set_option maxHeartbeats 4000000
namespace K00W
open PySem PySem.Spec PyProof.Rows L2 TL LW
def top_mk {K : PySem.W.Frag} {h : Heap} {mg : Str → Option Value} (X : K.In h) (G : h.Ns mainGlobals mg)
    {f0 : Addr} {od0 an0 : Option Addr} {sl0 : Array (Option Value)} {oc0 kV0 dc0 pm0 cd0 ct0 : Value}
    {f1 : Addr} {od1 an1 : Option Addr} {sl1 : Array (Option Value)} {oc1 kV1 dc1 pm1 cd1 ct1 : Value}
    {f2 : Addr} {od2 an2 : Option Addr} {sl2 : Array (Option Value)} {oc2 kV2 dc2 pm2 cd2 ct2 : Value}
    {f3 : Addr} {od3 an3 : Option Addr} {sl3 : Array (Option Value)} {oc3 kV3 dc3 pm3 cd3 ct3 : Value}
    {f4 : Addr} {od4 an4 : Option Addr} {sl4 : Array (Option Value)} {oc4 kV4 dc4 pm4 cd4 ct4 : Value}
    {f5 : Addr} {od5 an5 : Option Addr} {sl5 : Array (Option Value)} {oc5 kV5 dc5 pm5 cd5 ct5 : Value}
    {f6 : Addr} {od6 an6 : Option Addr} {sl6 : Array (Option Value)} {oc6 kV6 dc6 pm6 cd6 ct6 : Value}
    {f7 : Addr} {od7 an7 : Option Addr} {sl7 : Array (Option Value)} {oc7 kV7 dc7 pm7 cd7 ct7 : Value}
    {f8 : Addr} {od8 an8 : Option Addr} {sl8 : Array (Option Value)} {oc8 kV8 dc8 pm8 cd8 ct8 : Value}
    {t9 : Tok}
    {t10 : Tok}
    {t11 : Tok}
    (a0 : PySem.W.nsIn K mainGlobals "run_end" = some (some (.ref f0))) (l0 : K.lookup f0 = some ⟨oc0, od0, .func (PySem.W.fnOf "run_end" "run_end" (defArgs s_run_end) (defBody s_run_end) (defScope s_run_end) .none kV0 dc0 pm0 an0 cd0 ct0), sl0⟩) (c0 : PySem.W.codeIn K cd0 "run_end" = true) (k0 : PySem.W.keepIn K (.ref f0) = true)
    (a1 : PySem.W.nsIn K mainGlobals "line_tokens" = some (some (.ref f1))) (l1 : K.lookup f1 = some ⟨oc1, od1, .func (PySem.W.fnOf "line_tokens" "line_tokens" (defArgs s_line_tokens) (defBody s_line_tokens) (defScope s_line_tokens) .none kV1 dc1 pm1 an1 cd1 ct1), sl1⟩) (c1 : PySem.W.codeIn K cd1 "line_tokens" = true) (k1 : PySem.W.keepIn K (.ref f1) = true)
    (a2 : PySem.W.nsIn K mainGlobals "text_lines" = some (some (.ref f2))) (l2 : K.lookup f2 = some ⟨oc2, od2, .func (PySem.W.fnOf "text_lines" "text_lines" (defArgs s_text_lines) (defBody s_text_lines) (defScope s_text_lines) .none kV2 dc2 pm2 an2 cd2 ct2), sl2⟩) (c2 : PySem.W.codeIn K cd2 "text_lines" = true) (k2 : PySem.W.keepIn K (.ref f2) = true)
    (a3 : PySem.W.nsIn K mainGlobals "text_tokens" = some (some (.ref f3))) (l3 : K.lookup f3 = some ⟨oc3, od3, .func (PySem.W.fnOf "text_tokens" "text_tokens" (defArgs s_text_tokens) (defBody s_text_tokens) (defScope s_text_tokens) .none kV3 dc3 pm3 an3 cd3 ct3), sl3⟩) (c3 : PySem.W.codeIn K cd3 "text_tokens" = true) (k3 : PySem.W.keepIn K (.ref f3) = true)
    (a4 : PySem.W.nsIn K mainGlobals "_law_source" = some (some (.ref f4))) (l4 : K.lookup f4 = some ⟨oc4, od4, .func (PySem.W.fnOf "_law_source" "_law_source" (defArgs s_law_source) (defBody s_law_source) (defScope s_law_source) .none kV4 dc4 pm4 an4 cd4 ct4), sl4⟩) (c4 : PySem.W.codeIn K cd4 "_law_source" = true) (k4 : PySem.W.keepIn K (.ref f4) = true)
    (a5 : PySem.W.nsIn K mainGlobals "_law_pick" = some (some (.ref f5))) (l5 : K.lookup f5 = some ⟨oc5, od5, .func (PySem.W.fnOf "_law_pick" "_law_pick" (defArgs s_law_pick) (defBody s_law_pick) (defScope s_law_pick) .none kV5 dc5 pm5 an5 cd5 ct5), sl5⟩) (c5 : PySem.W.codeIn K cd5 "_law_pick" = true) (k5 : PySem.W.keepIn K (.ref f5) = true)
    (a6 : PySem.W.nsIn K mainGlobals "_law_same" = some (some (.ref f6))) (l6 : K.lookup f6 = some ⟨oc6, od6, .func (PySem.W.fnOf "_law_same" "_law_same" (defArgs s_law_same) (defBody s_law_same) (defScope s_law_same) .none kV6 dc6 pm6 an6 cd6 ct6), sl6⟩) (c6 : PySem.W.codeIn K cd6 "_law_same" = true) (k6 : PySem.W.keepIn K (.ref f6) = true)
    (a7 : PySem.W.nsIn K mainGlobals "_law_a_tokens" = some (some (.ref f7))) (l7 : K.lookup f7 = some ⟨oc7, od7, .func (PySem.W.fnOf "_law_a_tokens" "_law_a_tokens" (defArgs s_law_a_tokens) (defBody s_law_a_tokens) (defScope s_law_a_tokens) .none kV7 dc7 pm7 an7 cd7 ct7), sl7⟩) (c7 : PySem.W.codeIn K cd7 "_law_a_tokens" = true) (k7 : PySem.W.keepIn K (.ref f7) = true)
    (a8 : PySem.W.nsIn K mainGlobals "law" = some (some (.ref f8))) (l8 : K.lookup f8 = some ⟨oc8, od8, .func (PySem.W.fnOf "law" "law" (defArgs s_law) (defBody s_law) (defScope s_law) .none kV8 dc8 pm8 an8 cd8 ct8), sl8⟩) (c8 : PySem.W.codeIn K cd8 "law" = true) (k8 : PySem.W.keepIn K (.ref f8) = true)
    (v9 : PySem.W.nsIn K mainGlobals "SMALL" = some (some (Value.str (Str.ofString "abcdefghijklmnopqrstuvwxyz") t9)))
    (v10 : PySem.W.nsIn K mainGlobals "FIGURES" = some (some (Value.str (Str.ofString "0123456789") t10)))
    (v11 : PySem.W.nsIn K mainGlobals "SINGLES" = some (some (Value.str (Str.ofString "()[],:|=+*-") t11)))
    (z12 : PySem.W.nsIn K mainGlobals "bool" = some none)
    (z13 : PySem.W.nsIn K mainGlobals "dict" = some none)
    (z14 : PySem.W.nsIn K mainGlobals "int" = some none)
    (z15 : PySem.W.nsIn K mainGlobals "isinstance" = some none)
    (z16 : PySem.W.nsIn K mainGlobals "len" = some none)
    (z17 : PySem.W.nsIn K mainGlobals "list" = some none)
    (z18 : PySem.W.nsIn K mainGlobals "range" = some none)
    (z19 : PySem.W.nsIn K mainGlobals "str" = some none)
    (z20 : PySem.W.nsIn K mainGlobals "tuple" = some none)
    (z21 : PySem.W.nsIn K mainGlobals "zip" = some none) : Top K mg where
  a_run_end := f0
  d_run_end := _
  F_run_end := fun_mk l0 c0 k0
  b_run_end := (fun_mk (st := s_run_end) l0 c0 k0).binds fun _ _ _ _ _ _ us hl => match us, hl with | [_, _, _], _ => rfl
  m_run_end := PySem.W.mg_of X G a0
  a_line_tokens := f1
  d_line_tokens := _
  F_line_tokens := fun_mk l1 c1 k1
  b_line_tokens := (fun_mk (st := s_line_tokens) l1 c1 k1).binds fun _ _ _ _ _ _ us hl => match us, hl with | [_, _], _ => rfl
  m_line_tokens := PySem.W.mg_of X G a1
  a_text_lines := f2
  d_text_lines := _
  F_text_lines := fun_mk l2 c2 k2
  b_text_lines := (fun_mk (st := s_text_lines) l2 c2 k2).binds fun _ _ _ _ _ _ us hl => match us, hl with | [_], _ => rfl
  m_text_lines := PySem.W.mg_of X G a2
  a_text_tokens := f3
  d_text_tokens := _
  F_text_tokens := fun_mk l3 c3 k3
  b_text_tokens := (fun_mk (st := s_text_tokens) l3 c3 k3).binds fun _ _ _ _ _ _ us hl => match us, hl with | [_], _ => rfl
  m_text_tokens := PySem.W.mg_of X G a3
  a_law_source := f4
  d_law_source := _
  F_law_source := fun_mk l4 c4 k4
  b_law_source := (fun_mk (st := s_law_source) l4 c4 k4).binds fun _ _ _ _ _ _ us hl => match us, hl with | [_, _], _ => rfl
  m_law_source := PySem.W.mg_of X G a4
  a_law_pick := f5
  d_law_pick := _
  F_law_pick := fun_mk l5 c5 k5
  b_law_pick := (fun_mk (st := s_law_pick) l5 c5 k5).binds fun _ _ _ _ _ _ us hl => match us, hl with | [_, _], _ => rfl
  m_law_pick := PySem.W.mg_of X G a5
  a_law_same := f6
  d_law_same := _
  F_law_same := fun_mk l6 c6 k6
  b_law_same := (fun_mk (st := s_law_same) l6 c6 k6).binds fun _ _ _ _ _ _ us hl => match us, hl with | [_, _], _ => rfl
  m_law_same := PySem.W.mg_of X G a6
  a_law_a_tokens := f7
  d_law_a_tokens := _
  F_law_a_tokens := fun_mk l7 c7 k7
  b_law_a_tokens := (fun_mk (st := s_law_a_tokens) l7 c7 k7).binds fun _ _ _ _ _ _ us hl => match us, hl with | [_], _ => rfl
  m_law_a_tokens := PySem.W.mg_of X G a7
  a_law := f8
  d_law := _
  F_law := fun_mk l8 c8 k8
  b_law := (fun_mk (st := s_law) l8 c8 k8).binds fun _ _ _ _ _ _ us hl => match us, hl with | [_], _ => rfl
  m_law := PySem.W.mg_of X G a8
  bt_law := fun s v => .of_eq rfl
  t_SMALL := t9
  m_SMALL := PySem.W.mg_of X G v9
  t_FIGURES := t10
  m_FIGURES := PySem.W.mg_of X G v10
  t_SINGLES := t11
  m_SINGLES := PySem.W.mg_of X G v11
  m_bool := PySem.W.mg_none_of X G z12
  m_dict := PySem.W.mg_none_of X G z13
  m_int := PySem.W.mg_none_of X G z14
  m_isinstance := PySem.W.mg_none_of X G z15
  m_len := PySem.W.mg_none_of X G z16
  m_list := PySem.W.mg_none_of X G z17
  m_range := PySem.W.mg_none_of X G z18
  m_str := PySem.W.mg_none_of X G z19
  m_tuple := PySem.W.mg_none_of X G z20
  m_zip := PySem.W.mg_none_of X G z21
theorem all_law {l : PySem.W.OpenLaw} {w : World} {K : PySem.W.Frag} {mg : Str → Option Value} {fa : Addr} (hfa : mg "law" = some (.ref fa)) (T : Top K mg) :
    ∃ fd : FuncData, (∀ (s : Shared) (v : Value), BindsTo s fd ⟨[v], []⟩ [("script", v)]) ∧ ∀ base : Heap, K.In base → base.Ns mainGlobals mg → FnOk l.prog w K mg base CX0 5 fa fd ["script"] (spLaw K) := by
  have e := hfa.symm.trans T.m_law
  have e2 : fa = T.a_law := by
    have := Option.some.inj e
    injection this
  subst e2
  exact ⟨T.d_law, T.bt_law, fun base _ _ => ok_law T⟩
end K00W
open PySem PySem.W PyProof.Rows
set_option maxHeartbeats 0 in
theorem PySem.Challenge.cw_tellsasleep_k00_tokens_sign_by_sign_holds : PySem.Challenge.rw_tellsasleep_k00_tokens_sign_by_sign.Holds := by
  w_on; o_law; k_head; (case hw => w_witness2)
  k_fill
  refine L2.walk_of (l := PySem.Challenge.rw_tellsasleep_k00_tokens_sign_by_sign) (n := 63) (k := 5) (x := "script") (CX := fun _ => L2.CX0) (sp := fun w => K00W.spLaw _) rfl (by decide) rfl ⟨rfl, by decide, by decide⟩ (fun w h Y => PySem.W.kIn_of Y) ?F (fun _ _ a ns hl _ hS => ⟨a, ns, rfl, hS, hl, fun _ => rfl⟩) (fun _ _ _ _ _ h => h)
  case F =>
    intro w mg fa h KX G hmg
    refine' K00W.all_law hmg (K00W.top_mk KX G ?a0 ?l0 ?c0 ?k0 ?a1 ?l1 ?c1 ?k1 ?a2 ?l2 ?c2 ?k2 ?a3 ?l3 ?c3 ?k3 ?a4 ?l4 ?c4 ?k4 ?a5 ?l5 ?c5 ?k5 ?a6 ?l6 ?c6 ?k6 ?a7 ?l7 ?c7 ?k7 ?a8 ?l8 ?c8 ?k8 ?v9 ?v10 ?v11 ?z12 ?z13 ?z14 ?z15 ?z16 ?z17 ?z18 ?z19 ?z20 ?z21)
    (case a0 => k_is); (case l0 => k_is); (case c0 => k_is); (case k0 => k_is); (case a1 => k_is); (case l1 => k_is); (case c1 => k_is); (case k1 => k_is); (case a2 => k_is); (case l2 => k_is); (case c2 => k_is); (case k2 => k_is); (case a3 => k_is); (case l3 => k_is); (case c3 => k_is); (case k3 => k_is); (case a4 => k_is); (case l4 => k_is); (case c4 => k_is); (case k4 => k_is); (case a5 => k_is); (case l5 => k_is); (case c5 => k_is); (case k5 => k_is); (case a6 => k_is); (case l6 => k_is); (case c6 => k_is); (case k6 => k_is); (case a7 => k_is); (case l7 => k_is); (case c7 => k_is); (case k7 => k_is); (case a8 => k_is); (case l8 => k_is); (case c8 => k_is); (case k8 => k_is); (case v9 => k_is); (case v10 => k_is); (case v11 => k_is); (case z12 => k_is); (case z13 => k_is); (case z14 => k_is); (case z15 => k_is); (case z16 => k_is); (case z17 => k_is); (case z18 => k_is); (case z19 => k_is); (case z20 => k_is); (case z21 => k_is)
