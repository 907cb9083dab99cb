import PyProof.Rows.All
import Wide.All
import OpenK.AllK
import Wide.FinOn
import HandS.ForMost
import HandS.IsInst
import HandS.Zip
import HandS.Wide
import HandS.Flow
import HandS.Conv
import HandS.SortInts
import HandS.Steps
import HandS.Evl
import HandS.Rev
import HandS.More
import HandS.DictComp
import HandS.DictTup
import PyProof.ListRange
import HandS.Exc
import HandS.Comp
import KE.GoesComp
import KE.KAsSuite
import HandS.ExcInit
import OpenK.KCls
import HandS.ExcOwn
import HandS.WordsExc
import KE.KIntText
import PyProof.Rows.StrOr
import HandS.RaiseMore
import HandS.Replace
import HandS.Text
import HandS.Words
import PyProof.StrBlock2
import KE.IntTextLaws
import HandS.Codes
import PySem.Challenge.RW_tellsasleep_k66_papers_as_text
set_option Elab.async false
set_option linter.all false
set_option maxRecDepth 100000
/-! LWBase: small words over the hand layer for all laws: heaps, data, the steps of a reading. -/
namespace LW
open PySem PySem.Spec PyProof.Rows L2 TL

/-! ### heaps -/
theorem same_new {H : Hp} {p : Addr} {o : HO} (h : H p = none) : Same H (upd H p o) := fun b x e => by
  rw [upd_ne (ne_of_none e h)]
  exact e
theorem hp_new {H : Hp} {a p : Addr} {o x : HO} (h : H a = some o) (n : H p = none) : upd H p x a = some o := (upd_ne (ne_of_none h n)).trans h
theorem same_t {H : Hp} {K : PySem.W.Frag} {H' : Hp} {a : Addr} {xs : List V} (e : Same H H') (h : SqT K H a xs) : SqT K H' a xs := by
  rcases h with (h | ⟨o, h⟩) | h
  · exact .inl (.inl (e _ _ h))
  · exact .inl (.inr ⟨o, e _ _ h⟩)
  · exact .inr h
/-- all but what stands at s is as it was -/
def But (s : Addr) (H H' : Hp) : Prop := ∀ b o, b ≠ s → H b = some o → H' b = some o
theorem But.refl (s : Addr) (H : Hp) : But s H H := fun _ _ _ h => h
theorem But.trans {s : Addr} {H H1 H2 : Hp} (a : But s H H1) (b : But s H1 H2) : But s H H2 := fun c o n h => b c o n (a c o n h)
theorem But.of {s : Addr} {H H' : Hp} (h : Same H H') : But s H H' := fun b o _ e => h b o e
theorem But.upd {s : Addr} {H : Hp} {o : HO} : But s H (upd H s o) := fun b x n e => by
  rw [upd_ne n]
  exact e
theorem But.free {s : Addr} {H H' : Hp} (e : But s H H') {l : Addr} (hs : l ≠ s) (h : H' l = none) : H l = none := by
  cases q : H l with
  | none => rfl
  | some o =>
    rw [e l o hs q] at h
    cases h
/-- a new object changed: all that stood before is as it was -/
theorem same_mut {H H' : Hp} {p : Addr} {o : HO} (e : Same H H') (h : H p = none) : Same H (upd H' p o) := fun a u ha => by
  rw [upd_ne (ne_of_none ha h)]
  exact e a u ha

/-- the heap without what stands at s -/
def wo (s : Addr) (H : Hp) : Hp := fun b => if b = s then none else H b
theorem wo_self {s : Addr} {H : Hp} : wo s H s = none := by
  unfold wo
  rw [if_pos rfl]
theorem wo_ne {s b : Addr} {H : Hp} (h : b ≠ s) : wo s H b = H b := by
  unfold wo
  rw [if_neg h]
theorem wo_same {s : Addr} {H : Hp} : Same (wo s H) H := fun b o e => by
  unfold wo at e
  split at e
  · cases e
  · exact e
theorem But.hid {s : Addr} {H H' : Hp} (h : But s H H') : Same (wo s H) (wo s H') := fun b o e => by
  unfold LW.wo at e ⊢
  split at e
  · cases e
  · rename_i n
    rw [if_neg n]
    exact h b o n e
theorem But.hid1 {s : Addr} {H H' : Hp} (h : But s H H') : Same (wo s H) H' := fun b o e => wo_same b o (h.hid b o e)
theorem But.trans' {s : Addr} {H H1 H2 : Hp} (a : But s H H1) (b : Same H1 H2) : But s H H2 := a.trans (.of b)
theorem Same.but {s : Addr} {H H1 H2 : Hp} (a : Same H H1) (b : But s H1 H2) : But s H H2 := (But.of a).trans b
/-- a new thing of ours is at s: all but s kept is all kept -/
theorem But.same {s : Addr} {H H' : Hp} (h : But s H H') (n : H s = none) : Same H H' := fun b o e => h b o (fun z => by rw [z, n] at e; cases e) e

/-! ### data that stands in tracked lists and tuples -/
mutual
def Dt (H : Hp) : V → PyData → Prop
  | v, .none => v = .non
  | v, .bool b => v = .bl b
  | v, .int i => v = .int i
  | v, .str x => v = .str x
  | v, .list ds => ∃ a xs, v = .ref a ∧ H a = some (.lst xs) ∧ DtAll H xs ds
  | v, .tuple ds => ∃ a xs, v = .ref a ∧ H a = some (.tup xs) ∧ DtAll H xs ds
  | _, .dict _ => False
def DtAll (H : Hp) : List V → List PyData → Prop
  | xs, [] => xs = []
  | xs, d :: ds => ∃ v vs, xs = v :: vs ∧ Dt H v d ∧ DtAll H vs ds
end
mutual
theorem Dt.same {H H' : Hp} (e : Same H H') : ∀ (d : PyData) (v : V), Dt H v d → Dt H' v d
  | .none, _, h => by
    unfold Dt at h ⊢
    exact h
  | .bool _, _, h => by
    unfold Dt at h ⊢
    exact h
  | .int _, _, h => by
    unfold Dt at h ⊢
    exact h
  | .str _, _, h => by
    unfold Dt at h ⊢
    exact h
  | .list ds, _, h => by
    unfold Dt at h ⊢
    obtain ⟨a, xs, e1, e2, e3⟩ := h
    exact ⟨a, xs, e1, e _ _ e2, DtAll.same e ds xs e3⟩
  | .tuple ds, _, h => by
    unfold Dt at h ⊢
    obtain ⟨a, xs, e1, e2, e3⟩ := h
    exact ⟨a, xs, e1, e _ _ e2, DtAll.same e ds xs e3⟩
  | .dict _, _, h => by
    unfold Dt at h
    exact h.elim
theorem DtAll.same {H H' : Hp} (e : Same H H') : ∀ (ds : List PyData) (xs : List V), DtAll H xs ds → DtAll H' xs ds
  | [], _, h => by
    unfold DtAll at h ⊢
    exact h
  | d :: ds, _, h => by
    unfold DtAll at h ⊢
    obtain ⟨v, vs, e1, e2, e3⟩ := h
    exact ⟨v, vs, e1, Dt.same e d v e2, DtAll.same e ds vs e3⟩
end
/-! ### data of tuples alone: nothing changes it -/
/-- all tuples stand as they stood -/
def Ts (H H' : Hp) : Prop := ∀ a xs, H a = some (.tup xs) → H' a = some (.tup xs)
theorem Ts.refl (H : Hp) : Ts H H := fun _ _ h => h
theorem Ts.trans {H H1 H2 : Hp} (a : Ts H H1) (b : Ts H1 H2) : Ts H H2 := fun c o h => b c o (a c o h)
theorem Ts.of {H H' : Hp} (h : Same H H') : Ts H H' := fun a _ e => h a _ e
theorem Ts.but {s : Addr} {H H' : Hp} {xs : List V} (h : But s H H') (hs : H s = some (.lst xs)) : Ts H H' := fun a ys e => h a _ (fun z => by rw [z, hs] at e; cases e) e
theorem Ts.upd {s : Addr} {H : Hp} {xs : List V} {o : HO} (hs : H s = some (.lst xs)) : Ts H (upd H s o) := Ts.but But.upd hs
theorem Ts.hid {s : Addr} {H H' : Hp} {xs : List V} (h : Ts H H') (hs : H s = some (.lst xs)) : Ts H (wo s H') := fun a ys e => by
  rw [wo_ne (fun z => by rw [z, hs] at e; cases e)]
  exact h a ys e
mutual
def fz : PyData → Bool
  | .list _ => false
  | .dict _ => false
  | .tuple ds => fzAll ds
  | _ => true
def fzAll : List PyData → Bool
  | [] => true
  | d :: ds => fz d && fzAll ds
end
mutual
theorem Dt.ts {H H' : Hp} (e : Ts H H') : ∀ (d : PyData) (v : V), fz d = true → Dt H v d → Dt H' v d
  | .none, _, _, h => by
    unfold Dt at h ⊢
    exact h
  | .bool _, _, _, h => by
    unfold Dt at h ⊢
    exact h
  | .int _, _, _, h => by
    unfold Dt at h ⊢
    exact h
  | .str _, _, _, h => by
    unfold Dt at h ⊢
    exact h
  | .list ds, _, f, _ => by
    unfold fz at f
    cases f
  | .tuple ds, _, f, h => by
    unfold fz at f
    unfold Dt at h ⊢
    obtain ⟨a, xs, e1, e2, e3⟩ := h
    exact ⟨a, xs, e1, e _ _ e2, DtAll.ts e ds xs f e3⟩
  | .dict _, _, f, h => by
    unfold fz at f
    cases f
theorem DtAll.ts {H H' : Hp} (e : Ts H H') : ∀ (ds : List PyData) (xs : List V), fzAll ds = true → DtAll H xs ds → DtAll H' xs ds
  | [], _, _, h => by
    unfold DtAll at h ⊢
    exact h
  | d :: ds, _, f, h => by
    unfold fzAll at f
    rw [Bool.and_eq_true] at f
    unfold DtAll at h ⊢
    obtain ⟨v, vs, e1, e2, e3⟩ := h
    exact ⟨v, vs, e1, Dt.ts e d v f.1 e2, DtAll.ts e ds vs f.2 e3⟩
end
theorem fzAll_iff : ∀ {ds : List PyData}, fzAll ds = true ↔ ∀ d ∈ ds, fz d = true
  | [] => by simp [fzAll]
  | d :: ds => by simp [fzAll, fzAll_iff (ds := ds)]
theorem fzAll_map {α : Type} {f : α → PyData} (h : ∀ a, fz (f a) = true) (l : List α) : fzAll (l.map f) = true := fzAll_iff.mpr fun d hd => by
  obtain ⟨a, _, rfl⟩ := List.mem_map.mp hd
  exact h a
theorem dt_int {H : Hp} (i : Int) : Dt H (.int i) (.int i) := by unfold Dt; rfl
theorem dt_str {H : Hp} (x : Str) : Dt H (.str x) (.str x) := by unfold Dt; rfl
theorem dt_bool {H : Hp} (b : Bool) : Dt H (.bl b) (.bool b) := by unfold Dt; rfl
theorem dt_none {H : Hp} : Dt H .non .none := by unfold Dt; rfl
theorem dt_list {H : Hp} {a : Addr} {xs : List V} {ds : List PyData} (h : H a = some (.lst xs)) (k : DtAll H xs ds) : Dt H (.ref a) (.list ds) := by
  unfold Dt
  exact ⟨a, xs, rfl, h, k⟩
theorem dt_tup {H : Hp} {a : Addr} {xs : List V} {ds : List PyData} (h : H a = some (.tup xs)) (k : DtAll H xs ds) : Dt H (.ref a) (.tuple ds) := by
  unfold Dt
  exact ⟨a, xs, rfl, h, k⟩
theorem da_nil {H : Hp} : DtAll H [] [] := by unfold DtAll; rfl
theorem da_cons {H : Hp} {v : V} {vs : List V} {d : PyData} {ds : List PyData} (h : Dt H v d) (k : DtAll H vs ds) : DtAll H (v :: vs) (d :: ds) := by
  unfold DtAll
  exact ⟨v, vs, rfl, h, k⟩
theorem da_app {H : Hp} : ∀ {ds es : List PyData} {xs ys : List V}, DtAll H xs ds → DtAll H ys es → DtAll H (xs ++ ys) (ds ++ es)
  | [], es, xs, ys, h, k => by
    unfold DtAll at h
    subst h
    exact k
  | d :: ds, es, xs, ys, h, k => by
    unfold DtAll at h
    obtain ⟨v, vs, rfl, h1, h2⟩ := h
    exact da_cons h1 (da_app h2 k)
theorem da_len {H : Hp} : ∀ {ds : List PyData} {xs : List V}, DtAll H xs ds → xs.length = ds.length
  | [], xs, h => by
    unfold DtAll at h
    subst h
    rfl
  | d :: ds, xs, h => by
    unfold DtAll at h
    obtain ⟨v, vs, rfl, h1, h2⟩ := h
    rw [List.length_cons, List.length_cons, da_len h2]
theorem da_get {H : Hp} : ∀ {ds : List PyData} {xs : List V} {i : Nat} {d : PyData}, DtAll H xs ds → ds[i]? = some d → ∃ v, xs[i]? = some v ∧ Dt H v d
  | [], _, _, _, _, e => by simp at e
  | d :: ds, xs, 0, d', h, e => by
    unfold DtAll at h
    obtain ⟨v, vs, rfl, h1, h2⟩ := h
    simp at e
    subst e
    exact ⟨v, rfl, h1⟩
  | d :: ds, xs, i + 1, d', h, e => by
    unfold DtAll at h
    obtain ⟨v, vs, rfl, h1, h2⟩ := h
    obtain ⟨u, e1, e2⟩ := da_get (i := i) h2 (by simpa using e)
    exact ⟨u, by simpa using e1, e2⟩
theorem da_dropLast {H : Hp} : ∀ {ds : List PyData} {xs : List V}, DtAll H xs ds → DtAll H xs.dropLast ds.dropLast
  | [], xs, h => by
    unfold DtAll at h
    subst h
    exact da_nil
  | [d], xs, h => by
    unfold DtAll at h
    obtain ⟨v, vs, rfl, h1, h2⟩ := h
    unfold DtAll at h2
    subst h2
    exact da_nil
  | d :: d' :: ds, xs, h => by
    unfold DtAll at h
    obtain ⟨v, vs, rfl, h1, h2⟩ := h
    have h3 := da_dropLast h2
    have l := da_len h2
    cases vs with
    | nil => simp at l
    | cons u us => exact da_cons h1 h3
theorem da_snoc {H : Hp} : ∀ {ds : List PyData} {d : PyData} {xs : List V}, DtAll H xs (ds ++ [d]) → ∃ ys v, xs = ys ++ [v] ∧ DtAll H ys ds ∧ Dt H v d
  | [], d, xs, h => by
    rw [List.nil_append] at h
    unfold DtAll at h
    obtain ⟨v, vs, rfl, h1, h2⟩ := h
    unfold DtAll at h2
    subst h2
    exact ⟨[], v, rfl, da_nil, h1⟩
  | e :: ds, d, xs, h => by
    rw [List.cons_append] at h
    unfold DtAll at h
    obtain ⟨v, vs, rfl, h1, h2⟩ := h
    obtain ⟨ys, u, rfl, h3, h4⟩ := da_snoc h2
    exact ⟨v :: ys, u, rfl, da_cons h1 h3, h4⟩
theorem da_ints {H : Hp} : ∀ (ns : List Int), DtAll H (ns.map V.int) (ns.map PyData.int)
  | [] => da_nil
  | n :: ns => da_cons (dt_int n) (da_ints ns)

mutual
/-- how deep data go -/
def dep : PyData → Nat
  | .list ds => depAll ds + 1
  | .tuple ds => depAll ds + 1
  | _ => 0
def depAll : List PyData → Nat
  | [] => 0
  | d :: ds => max (dep d) (depAll ds)
end
theorem dep_get : ∀ {ds : List PyData} {i : Nat} {d : PyData}, ds[i]? = some d → dep d ≤ depAll ds
  | [], _, _, e => by simp at e
  | d :: ds, 0, d', e => by
    simp at e
    subst e
    unfold depAll
    exact Nat.le_max_left _ _
  | d :: ds, i + 1, d', e => by
    have h := dep_get (ds := ds) (i := i) (d := d') (by simpa using e)
    unfold depAll
    exact Nat.le_trans h (Nat.le_max_right _ _)

theorem sz_small {n : Nat} (h : n ≤ 16000000) : n ≤ sizeLine := Nat.le_trans h (by decide)
theorem sz_less {n : Nat} (h : n ≤ 16000000) : n < sizeLine := Nat.lt_of_le_of_lt h (by decide)

/-! ### tests -/
theorem iteD {p A B : Prop} [Decidable p] (h1 : p → A) (h2 : ¬ p → B) : if decide p = true then A else B := by
  by_cases h : p
  · rw [decide_eq_true h]
    exact iteT (h1 h)
  · rw [decide_eq_false h]
    exact iteF (h2 h)
theorem iteDn {p A B : Prop} [Decidable p] (h1 : ¬ p → A) (h2 : p → B) : if (!decide p) = true then A else B := by
  by_cases h : p
  · rw [decide_eq_true h]
    exact iteF (h2 h)
  · rw [decide_eq_false h]
    exact iteT (h1 h)
theorem iteI {i j : Int} {A B : Prop} (h1 : i = j → A) (h2 : i ≠ j → B) : if decide (V.int i = V.int j) = true then A else B :=
  iteD (fun e => h1 (V.int.inj e)) fun e => h2 fun z => e (congrArg V.int z)
theorem iteIn {i j : Int} {A B : Prop} (h1 : i ≠ j → A) (h2 : i = j → B) : if (!decide (V.int i = V.int j)) = true then A else B :=
  iteDn (fun e => h1 fun z => e (congrArg V.int z)) fun e => h2 (V.int.inj e)
theorem iteS {i j : Str} {A B : Prop} (h1 : i = j → A) (h2 : i ≠ j → B) : if decide (V.str i = V.str j) = true then A else B :=
  iteD (fun e => h1 (V.str.inj e)) fun e => h2 fun z => e (congrArg V.str z)
theorem iteSn {i j : Str} {A B : Prop} (h1 : i ≠ j → A) (h2 : i = j → B) : if (!decide (V.str i = V.str j)) = true then A else B :=
  iteDn (fun e => h1 fun z => e (congrArg V.str z)) fun e => h2 (V.str.inj e)
theorem dec_eqS {i j : Str} : decide (V.str i = V.str j) = decide (i = j) := by
  by_cases e : i = j
  · subst e; simp
  · rw [decide_eq_false e]; exact decide_eq_false fun z => e (V.str.inj z)
theorem dec_eqI {i j : Int} : decide (V.int i = V.int j) = decide (i = j) := by
  by_cases e : i = j
  · subst e; simp
  · rw [decide_eq_false e]; exact decide_eq_false fun z => e (V.int.inj z)
/-- a sign -/
abbrev sg (c : Nat) : Str := ⟨#[c]⟩
theorem sg_inj {c d : Nat} (h : sg c = sg d) : c = d := by
  have h2 : tl (sg c) = tl (sg d) := congrArg tl h
  have h3 : [c] = [d] := h2
  simpa using h3
theorem sg_eq {c d : Nat} {s : Str} (hs : s = sg d) : sg c = s ↔ c = d := by
  subst hs
  exact ⟨sg_inj, fun e => by rw [e]⟩
abbrev str (l : List Nat) : Str := ⟨l.toArray⟩
theorem str_tl (x : Str) : str (tl x) = x := mk_tl x
theorem tl_str (l : List Nat) : tl (str l) = l := rfl
theorem str_len (l : List Nat) : (str l).length = l.length := by rw [len_tl, tl_str]
theorem str_app (l m : List Nat) : str l ++ str m = str (l ++ m) := ext_tl (by rw [tl_append])
theorem str_inj {l m : List Nat} (h : str l = str m) : l = m := by
  have h2 : tl (str l) = tl (str m) := congrArg tl h
  exact h2
theorem map_get {α : Type} {f : α → V} {ms : List α} {i : Nat} {x : V} (h : (ms.map f)[i]? = some x) : ∃ v, x = f v ∧ ms[i]? = some v := by
  rw [List.getElem?_map] at h
  cases e : ms[i]? with
  | none => rw [e] at h; cases h
  | some v =>
    rw [e] at h
    exact ⟨v, (Option.some.inj h).symm, rfl⟩
theorem atI_map {α : Type} {f : α → V} {ms : List α} {i : Int} (h0 : 0 ≤ i) (h : i < ms.length) : ∃ v, ms[i.toNat]? = some v ∧ atI (ms.map f) i = some (f v) := by
  obtain ⟨n, rfl⟩ : ∃ n : Nat, i = (n : Int) := ⟨i.toNat, by omega⟩
  have hn : n < ms.length := by omega
  refine ⟨ms[n], by simp [hn], atI_nat ?_⟩
  rw [List.getElem?_map, List.getElem?_eq_getElem hn]
  rfl
theorem cut_take {xs : List V} (k : Nat) : cutV xs none (some (k : Int)) = xs.take k := by
  unfold cutV
  rw [HT.sIx_none, HT.sIx_nat, List.drop_zero, Nat.sub_zero]
  by_cases h : k ≤ xs.length
  · rw [Nat.min_eq_left h]
  · rw [Nat.min_eq_right (by omega), List.take_of_length_le (Nat.le_refl _), List.take_of_length_le (by omega)]
theorem cut_drop {xs : List V} (k : Nat) : cutV xs (some (k : Int)) none = xs.drop k := by
  unfold cutV
  rw [HT.sIx_none, HT.sIx_nat]
  by_cases h : k ≤ xs.length
  · rw [Nat.min_eq_left h, List.take_of_length_le (by simp)]
  · rw [Nat.min_eq_right (by omega), Nat.sub_self, List.drop_of_length_le (by omega), List.drop_of_length_le (by omega)]
    rfl
theorem cutS_nat {z : Str} {a b : Nat} : cutS z (some (a : Int)) (some (b : Int)) = str (((tl z).drop a).take (b - a)) := by
  show str (((tl z).drop (HT.sIx z.length 0 (some (a : Int)))).take (HT.sIx z.length z.length (some (b : Int)) - HT.sIx z.length 0 (some (a : Int)))) = _
  rw [HT.sIx_nat, HT.sIx_nat, len_tl]
  by_cases ha : a ≤ (tl z).length
  · rw [show min a (tl z).length = a by omega]
    by_cases h : b ≤ (tl z).length
    · rw [show min b (tl z).length = b by omega]
    · rw [show min b (tl z).length = (tl z).length by omega, List.take_of_length_le (by rw [List.length_drop]; omega), List.take_of_length_le (by rw [List.length_drop]; omega)]
  · rw [show min a (tl z).length = (tl z).length by omega]
    conv => rhs; rw [List.drop_of_length_le (by omega), List.take_nil]
    rw [List.drop_of_length_le (Nat.le_refl _), List.take_nil]
theorem atI_tl {x : Str} {i : Nat} {c : Nat} (h : (tl x)[i]? = some c) : atI x.cps.toList ((i : Nat) : Int) = some c := atI_nat h
theorem atI_lt {α : Type} {xs : List α} {i : Int} (h0 : 0 ≤ i) (h : i < xs.length) : atI xs i = some (xs[i.toNat]'(by omega)) := by
  obtain ⟨n, rfl⟩ : ∃ n : Nat, i = (n : Int) := ⟨i.toNat, by omega⟩
  have hn : n < xs.length := by omega
  have e := atI_nat (j := n) (List.getElem?_eq_getElem hn)
  simpa using e
theorem ixN_0 {n : Nat} (h : 0 < n) : ixN n 0 = some 0 := Evl.ixN_nat (j := 0) h
theorem ixN_1 {n : Nat} (h : 1 < n) : ixN n 1 = some 1 := Evl.ixN_nat (j := 1) h
theorem ixN_2 {n : Nat} (h : 2 < n) : ixN n 2 = some 2 := Evl.ixN_nat (j := 2) h
/-! ### steps by the head of a reading -/
section
variable {σ : L2.St} {H : Hp} {Q : VK} {D : Ends} {v : V} {te ta tb : TE} {t u c : TT} {t1 t2 t3 : TS} {g : TG} {i : Nat} {a b : Bool} {x y : Str} {k l : Int}
theorem go_c (q : Q v H) : tC v σ H Q := q
theorem go_nil {Q : List V → Hp → Prop} (q : Q [] H) : tNil σ H Q := q
theorem go_cons {tr : TA} {Q : List V → Hp → Prop} (q : te σ H fun x H1 => tr σ H1 fun xs H2 => Q (x :: xs) H2) : tCons te tr σ H Q := q
theorem go_call {sp : Sp} {dvs : List V} {E : XK} {tr : TA} (q : tr σ H fun vs H1 => sp (vs ++ dvs) H1 Q E) : tCall sp dvs E tr σ H Q := q
theorem go_cb {r : List V → Hp → VK → Prop} {tr : TA} (q : tr σ H fun vs H1 => r vs H1 Q) : tCB r tr σ H Q := q
theorem go_next (q : D.nx σ H) : tNext D σ H := q
theorem go_cont (q : D.ct σ H) : tCont D σ H := q
theorem go_brk (q : D.bk σ H) : tBreak D σ H := q
theorem go_name {Q : L2.St → Hp → Prop} (q : Q (σ.set i (some v)) H) : gName i v σ H Q := q
theorem go_seq (q : t1 { D with nx := t2 D } σ H) : tSeq t1 t2 D σ H := q
theorem go_asg (q : te σ H fun x H1 => g x σ H1 D.nx) : tAsg te g D σ H := q
theorem go_if (h : Ans c σ H a) (h1 : a = true → t1 D σ H) (h2 : a = false → t2 D σ H) : tIfS c t1 t2 D σ H := by
  cases a with
  | true => exact st_yes h (h1 rfl)
  | false => exact st_no h (h2 rfl)
theorem go_ifOr (h : Ans (tOr t u) σ H a) (h1 : a = true → t1 D σ H) (h2 : a = false → t2 D σ H) : tIfS (tOr t u) t1 t2 D σ H := go_if h h1 h2
theorem go_ifAnd (h : Ans (tAnd t u) σ H a) (h1 : a = true → t1 D σ H) (h2 : a = false → t2 D σ H) : tIfS (tAnd t u) t1 t2 D σ H := go_if h h1 h2
theorem go_or (h : Val (tOrV ta tb) σ H v) (q : Q v H) : tOrV ta tb σ H Q := h Q q
theorem go_and (h : Val (tAndV ta tb) σ H v) (q : Q v H) : tAndV ta tb σ H Q := h Q q
theorem go_not (h : Val (tNotV ta) σ H v) (q : Q v H) : tNotV ta σ H Q := h Q q
theorem go_ifE (h : Val (tIf t ta tb) σ H v) (q : Q v H) : tIf t ta tb σ H Q := h Q q
theorem val_orV (ha : Val ta σ H (.bl a)) (hb : Val tb σ H (.bl b)) : Val (tOrV ta tb) σ H (.bl (a || b)) := fun Q q => ha _ ⟨a, rfl, by
  cases a with
  | true => exact q
  | false => exact hb Q q⟩
theorem val_andV (ha : Val ta σ H (.bl a)) (hb : Val tb σ H (.bl b)) : Val (tAndV ta tb) σ H (.bl (a && b)) := fun Q q => ha _ ⟨a, rfl, by
  cases a with
  | true => exact hb Q q
  | false => exact q⟩
theorem val_notV (ha : Val ta σ H (.bl a)) : Val (tNotV ta) σ H (.bl (!a)) := fun Q q => ha _ ⟨a, rfl, q⟩
theorem val_ifS (h : Ans t σ H a) (ha : Val ta σ H (.str x)) (hb : Val tb σ H (.str y)) : Val (tIf t ta tb) σ H (.str (if a = true then x else y)) := fun Q q => h _ (by
  cases a with
  | true => exact ha Q q
  | false => exact hb Q q)
theorem val_ifI (h : Ans t σ H a) (ha : Val ta σ H (.int k)) (hb : Val tb σ H (.int l)) : Val (tIf t ta tb) σ H (.int (if a = true then k else l)) := fun Q q => h _ (by
  cases a with
  | true => exact ha Q q
  | false => exact hb Q q)
theorem val_ifB {p q : Bool} (h : Ans t σ H a) (ha : Val ta σ H (.bl p)) (hb : Val tb σ H (.bl q)) : Val (tIf t ta tb) σ H (.bl (if a = true then p else q)) := fun Q q => h _ (by
  cases a with
  | true => exact ha Q q
  | false => exact hb Q q)
theorem val_eqS (ha : Val ta σ H (.str x)) (hb : Val tb σ H (.str y)) : Val (tOp rEq ta tb) σ H (.bl (decide (x = y))) := fun Q q => ha _ (hb _ ⟨rfl, by rw [dec_eqS]; exact q⟩)
theorem val_eqI (ha : Val ta σ H (.int k)) (hb : Val tb σ H (.int l)) : Val (tOp rEq ta tb) σ H (.bl (decide (k = l))) := fun Q q => ha _ (hb _ ⟨rfl, by rw [dec_eqI]; exact q⟩)
theorem val_neS (ha : Val ta σ H (.str x)) (hb : Val tb σ H (.str y)) : Val (tOp rNe ta tb) σ H (.bl (!decide (x = y))) := fun Q q => ha _ (hb _ ⟨rfl, by rw [dec_eqS]; exact q⟩)
theorem val_neI (ha : Val ta σ H (.int k)) (hb : Val tb σ H (.int l)) : Val (tOp rNe ta tb) σ H (.bl (!decide (k = l))) := fun Q q => ha _ (hb _ ⟨rfl, by rw [dec_eqI]; exact q⟩)
theorem ans_test (h : Val te σ H (.bl a)) : Ans (tTest te) σ H a := fun Q q => h _ ⟨a, rfl, q⟩
theorem ans_or2 (h1 : Ans t σ H a) (h2 : Ans u σ H b) : Ans (tOr t u) σ H (a || b) := fun Q q => h1 _ (by
  cases a with
  | true => exact q
  | false => exact h2 Q q)
end
/-- a loop over the signs of a text -/
theorem for_str {z : Str} {g : TG} {tb : TS} {D : Ends} {σ : L2.St} {H : Hp} (Pv : Nat → L2.St → Hp → Prop) (h0 : Pv 0 σ H)
    (hs : ∀ (i c : Nat) σ H, (tl z)[i]? = some c → Pv i σ H → g (.str (sg c)) σ H fun σ2 H2 => tb { D with nx := Pv (i + 1), ct := Pv (i + 1), bk := D.nx } σ2 H2) (hd : ∀ σ H, Pv (tl z).length σ H → D.nx σ H) :
    ∃ W : Nat → Nat → L2.St → Hp → Prop, (∃ m, W 0 m σ H) ∧ ∀ i m σ H, W i m σ H →
      ((Its z).stop i H ∧ D.nx σ H) ∨ ((Its z).go i H ∧ ∃ N : L2.St → Hp → Prop, (∀ σ' H', N σ' H' → ∃ m', m' < m ∧ W (i + 1) m' σ' H') ∧ ∀ x H', (Its z).yld i H x H' → g x σ H' fun σ2 H2 => tb { D with nx := N, ct := N, bk := D.nx } σ2 H2) := by
  have el : (tl z).length = z.cps.size := by simp
  refine ⟨fun i m σ H => m = (tl z).length - i ∧ i ≤ (tl z).length ∧ Pv i σ H, ⟨(tl z).length, rfl, Nat.zero_le _, h0⟩, ?_⟩
  rintro i m σ H ⟨rfl, hi, p⟩
  by_cases hlt : i < (tl z).length
  · refine .inr ⟨(show i < z.cps.size by omega), Pv (i + 1), fun σ' H' p' => ⟨(tl z).length - (i + 1), by omega, rfl, hlt, p'⟩, fun x H' y => ?_⟩
    obtain ⟨rfl, c, hc, rfl⟩ := y
    exact hs i c σ _ (by rw [← hc]; simp) p
  · have e : i = (tl z).length := by omega
    subst e
    exact .inl ⟨Nat.le_of_eq el.symm, hd σ H p⟩
end LW
set_option Elab.async false
set_option linter.all false
set_option maxRecDepth 100000
set_option maxHeartbeats 1000000
/-! ListRev: list(reversed(x)), x a list: a new list. -/
namespace LW
open PySem PySem.Spec PyProof.Rows L2
section
variable {prog : Program} {w : World} {A : Around} {E : Value → Shared → Prop} {s : Shared}
theorem hint_rev {it l : Addr} {i : Int} {Q : Bool → Shared → Prop} (hit : s.heap.IsRevIter it l i) (h : Q false s) : wpAny (model prog w) A (Builtin.List.listLengthHint (.ref it)) Q E s := by
  have hT : s.TypeIs (.ref it) "list_reverseiterator" := hit.typeIs
  unfold Builtin.List.listLengthHint
  refine wpAny_bind (wpAny_specialOf hT RT.nolen_lri ?_)
  show wpAny _ A (specialOf (Value.ref it) (Str.ofString "__length_hint__") >>= _) _ _ _
  refine wpAny_bind (wpAny_specialOf hT RT.hint_lri ?_)
  generalize hid : ("list_reverseiterator.__length_hint__" : String) = id0
  wp_delta
  rw [show splitId id0 = some ("list_reverseiterator", "__length_hint__") from by subst hid; decide +kernel]
  subst hid
  refine wpAny_bind (wpAny_isInstance (b := true) hT (by rw [isSubtype_type]; kernel_rfl) ?_)
  exact wpAny_pure h
theorem extend_rev {R : Result → Shared → Prop} {it l : Addr} {items : Array Value} (hh : A.handled = none) (hit : s.heap.IsRevIter it l ((items.size : Int) - 1)) (hl : s.heap.IsList l items) (hne : l ≠ it) (hn : items.size ≤ sizeLine)
    (S : Addr) (hSi : S ≠ it) (hSl : S ≠ l) (res : Value) (c₀ : Nat) (hS : s.heap.get? S = some { cls := .type "list", data := .seq #[] c₀ })
    (hR : ∀ h' tk acc' c', (∀ b o, b ≠ S → b ≠ it → s.heap.get? b = some o → h'.get? b = some o) → h'.get? S = some { cls := .type "list", dict := none, data := .seq acc' c', slots := #[] } → ItemsOf (fun i v => items[items.size - 1 - i]? = some v) acc' items.size → R (.ok (.ret res)) { s with heap := h', toks := tk }) :
    wpAny (model prog w) A.in1 (Builtin.List.listExtendWith (.ref S) (.ref it) res)
      (fun fin s' => match fin with | .done f => R (.ok f) s' | .again c' => c'.quiet = true ∧ codeAny (model prog w) A c' R s') (fun e s' => R (.error e) s') s := by
  have W := (Walks.listRev (prog := prog) (w := w) (A := A.in1) hh it l hne items).toS
  have hSf : S ∉ [it, l] := by simp only [List.mem_cons, List.not_mem_nil, or_false, not_or]; exact ⟨hSi, hSl⟩
  have hT : s.TypeIs (.ref it) "list_reverseiterator" := hit.typeIs
  have e0 : ((items.size : Nat) : Int) - 1 - ((0 : Nat) : Int) = (items.size : Int) - 1 := by omega
  have h1 : Builtin.List.listSameRef (.ref S) (.ref it) = false := by simp [Builtin.List.listSameRef, hSi]
  unfold Builtin.List.listExtendWith
  refine wpAny_bind (wpAny_typeOf hT ?_)
  rw [if_neg (by rw [h1]; decide)]
  refine wpAny_bind (wpAny_pyIter_revIter hit ?_)
  refine wpAny_bind (wpAny_holding (hint_rev hit ?_))
  refine wpAny_pure ⟨plainId_quiet F.plain_extend_loop _, codeAny_extend_loopS W hn S hSf res items.size 0 _ #[] c₀ rfl (Nat.zero_le _) ⟨Nat.zero_le _, by rw [e0]; exact hit, hl⟩ hS (ItemsOf.nil _) fun s' acc' c' hm hS' hacc => ?_⟩
  rw [Moved.eq_with hm]
  refine hR s'.heap s'.toks acc' c' (fun b o hb hb2 e => hm.heap b o (fun hmem => ?_) e) hS' hacc
  rcases List.mem_cons.mp hmem with e' | hmem
  · exact hb e'
  · exact hb2 (List.mem_singleton.mp hmem)
theorem init_rev {R : Result → Shared → Prop} {it l : Addr} {items : Array Value} (hh : A.handled = none) (hit : s.heap.IsRevIter it l ((items.size : Int) - 1)) (hl : s.heap.IsList l items) (hne : l ≠ it) (hn : items.size ≤ sizeLine)
    (S : Addr) (hSi : S ≠ it) (hSl : S ≠ l) (hS : s.heap.get? S = some { cls := .type "list", data := .seq #[] })
    (hR : ∀ h' tk acc' c', (∀ b o, b ≠ S → b ≠ it → s.heap.get? b = some o → h'.get? b = some o) → h'.get? S = some { cls := .type "list", dict := none, data := .seq acc' c', slots := #[] } → ItemsOf (fun i v => items[items.size - 1 - i]? = some v) acc' items.size → R (.ok (.ret .none)) { s with heap := h', toks := tk }) :
    wpAny (model prog w) A.in1 (Builtin.«list.__init__» ⟨[.ref S, .ref it], []⟩)
      (fun fin s' => match fin with | .done f => R (.ok f) s' | .again c' => c'.quiet = true ∧ codeAny (model prog w) A c' R s') (fun e s' => R (.error e) s') s := by
  show wpAny _ _ (do let old ← Builtin.List.listItems (.ref S); Builtin.List.listUpdate (.ref S) (fun _ => #[]); letGo old.toList.reverse; Builtin.List.listExtendWith (.ref S) (.ref it) .none) _ _ s
  refine wpAny_bind ?_
  unfold Builtin.List.listItems
  refine wpAny_bind (wpAny_seqItems hS rfl (wpAny_pure ?_))
  show wpAny _ _ (updateSeq S (fun _ => #[]) >>= fun _ => letGo (#[] : Array Value).toList.reverse >>= fun _ => Builtin.List.listExtendWith (.ref S) (.ref it) .none) _ _ s
  refine wpAny_bind (wpAny_updateSeq hS rfl ?_)
  have hS₂ := Heap.get?_update_self (Obj.mapSeq (fun _ => (#[] : Array Value))) hS rfl
  have oth : ∀ b o, b ≠ S → s.heap.get? b = some o → (s.heap.update S (Obj.mapSeq (fun _ => (#[] : Array Value)))).get? b = some o :=
    fun b o hb e => (Heap.get?_update_other _ _ (Ne.symm hb)).trans e
  refine wpAny_bind (wpAny_letGo ?_)
  refine extend_rev hh (hit.at fun o e => oth it o (Ne.symm hSi) e) (let ⟨o, ho, x⟩ := hl; ⟨o, oth l o (Ne.symm hSl) ho, x⟩) hne hn S hSi hSl .none _ hS₂ fun h' tk acc' c' hk hS' hacc => ?_
  exact hR h' tk acc' c' (fun b o hb hb2 e => hk b o hb hb2 (oth b o hb e)) hS' hacc
theorem call_list_rev {it l : Addr} {items : Array Value} {Q : Value → Shared → Prop} (hh : A.handled = none) (hit : s.heap.IsRevIter it l ((items.size : Int) - 1)) (hl : s.heap.IsList l items) (hne : l ≠ it) (hn : items.size ≤ sizeLine)
    (hQ : ∀ h' tk acc' c', (∀ b o, b ≠ it → s.heap.get? b = some o → h'.get? b = some o) → h'.get? s.heap.objs.size = some { cls := .type "list", dict := none, data := .seq acc' c', slots := #[] } →
      ItemsOf (fun i v => items[items.size - 1 - i]? = some v) acc' items.size → Q (.ref s.heap.objs.size) { s with heap := h', toks := tk }) :
    wpAny (model prog w) A (call (.type "list") [.ref it]) Q E s := by
  refine callType_codes (Q₁ := fun obj s₁ => obj = .ref s.heap.objs.size ∧ s₁ = { s with heap := s.heap.push { cls := .type "list", data := .seq #[] } }) F.called_list (F.typeCall_list_1 _) F.entry_list_init
    (code_list_new _ ⟨rfl, rfl⟩) fun obj s₁ h₁ => ?_
  obtain ⟨rfl, rfl⟩ := h₁
  have hS : (s.heap.push { cls := .type "list", data := .seq #[] }).get? s.heap.objs.size = some { cls := .type "list", data := .seq #[] } := Heap.get?_push_size _ rfl
  obtain ⟨oi, hoi, _⟩ := id hit
  obtain ⟨ol, hol, _⟩ := id hl
  refine ⟨⟨_, hS, rfl⟩, F.args_list_init_2 _ _, init_rev (A := A.in1) hh (hit.at fun o e => Heap.get?_push_of_some _ e) (hl.push _) hne hn _ (Nat.ne_of_gt (Heap.lt_size hoi)) (Nat.ne_of_gt (Heap.lt_size hol)) hS fun h' tk acc' c' hk hS' hacc => ?_⟩
  exact ⟨rfl, hQ h' tk acc' c' (fun b o hb e => hk b o (Nat.ne_of_lt (Heap.lt_size e)) hb (Heap.get?_push_of_some _ e)) hS' hacc⟩
end
/-- list(reversed(x)), x a list: a new list -/
def tLstRev (K : PySem.W.Frag) (te : TE) : TE := fun σ H Q => te σ H fun v H1 => ∃ (a : Addr) (xs : List V), v = .ref a ∧ SqL K H1 a xs ∧ ∀ q, H1 q = none → Q (.ref q) (upd H1 q (.lst xs.reverse))
section
variable {X : Cx}
theorem pe_listRev {e : Expr} {te : TE} {p p2 pos pos2 : Pos} (hc : X.calm = true) (hg : Gl X "list") (hm : X.mg "list" = none) (hg2 : Gl X "reversed") (hm2 : X.mg "reversed" = none) (he : PE X e te)
    (hs : starEach [e] X.env = (false, eval e X.env) :: starEach [] X.env := by rfl)
    (hs2 : starEach [.Call (.Name "reversed" p2) [e] [] pos2] X.env = (false, eval (.Call (.Name "reversed" p2) [e] [] pos2) X.env) :: starEach [] X.env := by rfl) :
    PE X (.Call (.Name "list" p) [.Call (.Name "reversed" p2) [e] [] pos2] [] pos) (tLstRev X.K te) := by
  refine ⟨fun pins s σ H Q I h => ?_⟩
  refine Call_ (ld_blt I hg hm boot_list (PyProof.Rows.callWith_type1 (args_cons (Call_ (ld_blt I hg2 hm2 PyProof.Rows.boot_reversed (PyProof.Rows.callWith_type1 (args_cons (thn (he.run pins s σ H _ I h) fun u s1 ⟨v, H1, I1, r1, q1⟩ => args_nil ?_) hs) hs rfl))) hs2) hs2))
  obtain ⟨a, xs, ev, hq, q⟩ := q1
  subst ev
  obtain rfl : u = Value.ref a := r1
  obtain ⟨its, rv, p', hz⟩ := I1.list hq
  refine call_reversed_list p'.isList (args_nil ?_)
  have hl := p'.isList
  obtain ⟨ol, hol, _⟩ := id hl
  have hne : a ≠ s1.heap.objs.size := Nat.ne_of_lt (Heap.lt_size hol)
  have hn : its.toArray.size ≤ sizeLine := by rw [List.size_toArray, ← rv.length]; exact hz
  refine call_list_rev (s := { s1 with heap := s1.heap.push (revObj a ((its.toArray.size : Int) - 1)) }) (I1.ok.hd hc) ⟨_, Heap.get?_push_size _ rfl, rfl, rfl⟩ (hl.push _) hne hn fun h' tk acc c' hk hS hi => ?_
  have hk1 : ∀ b o, s1.heap.get? b = some o → h'.get? b = some o := fun b o e => hk b o (Nat.ne_of_lt (Heap.lt_size e)) (Heap.get?_push_of_some _ e)
  have hle : s1.heap.objs.size ≤ (s1.heap.push (revObj a ((its.toArray.size : Int) - 1))).objs.size := by simp [Heap.push]
  refine ⟨.ref (s1.heap.push (revObj a ((its.toArray.size : Int) - 1))).objs.size, upd H1 (s1.heap.push (revObj a ((its.toArray.size : Int) - 1))).objs.size (.lst xs.reverse), I1.laid hk1 hle (show ObjOk X.prog X.w _ _ _ (.lst xs.reverse) from ⟨by rw [List.length_reverse]; exact hz, acc.toList, c', RT.vals_rev rv hi, ?_⟩), rfl, q _ (I1.hok.fresh hle)⟩
  rw [Array.toArray_toList]
  exact hS
end
/-! ### x = {k: v for ..} -/
theorem sw_trueD {kx vx : Expr} {gs : List Comprehension} {scope : Scope} {pos py : Pos} {y : Str} {l : Nat} {env : Env} (hk : env.scope.kind = .function) (hy : env.scope.names.lookup y = some .local) (hl : (py.line == pos.line) = true)
    (ha : (scope.names.any fun (n, k) => n == y && (k == .local || k == .cell)) = false) : swapsWith (.DictComp kx vx gs scope pos) (some (.Name y py)) l env = pure true := by
  have ky : env.kindOf y = some .local := hy
  have hb : env.blockKind = .function := by unfold Env.blockKind; rw [hk]; rfl
  unfold swapsWith
  simp only [hb, ky, ha, Expr.pos, hl]
  rfl
section
variable {X : Cx}
theorem ps_setDc {i : Nat} {y : Str} {py : Pos} {kx vx tg iter : Expr} {ifs : List Expr} {scope : Scope} {own : List (Str × Nat)} {pos spos : Pos} {wi : TI} {g : TG} {tt : TT} {tk tv : TE} (hc : X.calm = true) (hN : X.N.Nodup) (hy : X.N[i]? = some y) (hyl : X.env.scope.names.lookup y = some .local)
    (hsw : swapsWith (.DictComp kx vx [⟨tg, iter, ifs, 0⟩] scope pos) (some (.Name y py)) spos.line X.env = pure true) (hi : PI X tg iter wi) (ok : BlkOk X.N X.env.scope scope own)
    (hg : ∀ (s : Shared) (H : Hp) (C : Addr) (cl : List (Str × Addr)) (fp : List Addr), PG (X.blk s H scope (compEnvC scope cl C X.env) fp) tg g) (ht : ∀ (s : Shared) (H : Hp) (C : Addr) (cl : List (Str × Addr)) (fp : List Addr), PTs (X.blk s H scope (compEnvC scope cl C X.env) fp) ifs tt)
    (hk : ∀ (s : Shared) (H : Hp) (C : Addr) (cl : List (Str × Addr)) (fp : List Addr), PE (X.blk s H scope (compEnvC scope cl C X.env) fp) kx tk)
    (he : ∀ (s : Shared) (H : Hp) (C : Addr) (cl : List (Str × Addr)) (fp : List Addr), PE (X.blk s H scope (compEnvC scope cl C X.env) fp) vx tv) (hs : ∀ x, foldedSetIterable iter X.env x = pure x := by intro _; rfl) :
    PS X (.Assign [.Name y py] (.DictComp kx vx [⟨tg, iter, ifs, 0⟩] scope pos) spos) (tAsg (tDc wi g tt tk tv (own.map (·.2))) (gName i)) := by
  refine ⟨fun pins s σ H D I h => ?_⟩
  rw [exec_Assign_Name_used _ _ _ _ hsw]
  refine wpAny_bind (wpAny_standAt (wpAny_bind ?_))
  show wpAny _ X.A (do let _ ← comprehension (.DictComp kx vx [⟨tg, iter, ifs, 0⟩] scope pos) scope X.env (firstIterPos [⟨tg, iter, ifs, 0⟩] pos) newDict false (eval iter X.env) (some (assign (.Name y py) X.env))) _ _ s
  have h : tDc wi g tt tk tv (own.map (·.2)) σ H (fun x H1 => gName i x σ H1 D.nx) := h
  refine wpAny_bind (thn (dc_core (Qf := fun _ s' => SP X pins D .next s') hc hN I hi ok hg ht hk he hs h fun L C s' m H' I' q hn f => ?_) fun _ s' hq => wpAny_pure (wpAny_pure hq))
  show wpAny _ _ (assign (.Name y py) X.env (.ref L)) _ _ _
  refine wpAny_assign_Name (store_ok2 (v := V.ref L) I' hN hy (.inl hyl) rfl (fun s2 I2 ⟨a, sb, ha⟩ => ?_) (.inr hyl))
  obtain ⟨f0, f1, f2, f3, f4, f5⟩ := f
  have haC : C ≠ a := by
    rcases ha with z | z
    · rw [z]; exact f1
    · exact fun e => f4 y a z e.symm
  refine ⟨m, hn.sameBut sb haC, fun h3 sb3 => ?_⟩
  exact ⟨_, H', I2.turned (t' := s2.toks) (fun b o hb e => (sb3.2 b hb).trans e) f0 f1 f3 f4 f5, q⟩
/-! ### rules within a comprehension's block: K stays the same -/
theorem ix_listB {K : PySem.W.Frag} (h : X.K = K) : IxR X (rIxL K) := by
  subst h
  exact ix_list
theorem ix_tupB {K : PySem.W.Frag} (h : X.K = K) : IxR X (rIxT K) := by
  subst h
  exact ix_tup
theorem op_inB {K : PySem.W.Frag} (h : X.K = K) : OpR X (compareOp .In) (rIn K false) := by
  subst h
  exact op_in_seq
theorem op_notInB {K : PySem.W.Frag} (h : X.K = K) : OpR X (compareOp .NotIn) (rIn K true) := by
  subst h
  exact op_notIn_seq
theorem call_lenB {K : PySem.W.Frag} (h : X.K = K) : CallR X (.builtin "len") (fun xs H Q => ∃ p ys, xs = [.ref p] ∧ (SqL K H p ys ∨ SqT K H p ys) ∧ Q (.int ys.length) H) := by
  subst h
  exact call_len_seq
theorem cr_allB {K : PySem.W.Frag} (hc : X.calm = true) (h : X.K = K) : CallR X (.builtin "all") (rAll K) := by
  subst h
  exact cr_all hc
theorem cr_anyB {K : PySem.W.Frag} (hc : X.calm = true) (h : X.K = K) : CallR X (.builtin "any") (rAny K) := by
  subst h
  exact cr_any hc
end
/-- a dict over a list that stays -/
theorem dc_list {K : PySem.W.Frag} {a : Addr} {xs : List V} {g : TG} {tt : TT} {tk tv : TE} {vs : List Nat} {σ : L2.St} {H1 : Hp} {D : Addr} {Qd : Hp → Prop} (Pv : Nat → Hp → Prop) (h0 : Pv 0 (upd H1 D (.dK []))) (hl : ∀ i H, i ≤ xs.length → Pv i H → SqL K H a xs)
    (hs : ∀ i x H, xs[i]? = some x → Pv i H → g x (wipe σ vs) H fun σ2 H2 => wipe σ2 vs = wipe σ vs ∧ tt σ2 H2 fun b H3 =>
      if b = true then tk σ2 H3 fun y H4 => tv σ2 H4 fun z H5 => ∃ kvs k, y = kV k ∧ H5 D = some (.dK kvs) ∧ kvs.length < sizeLine ∧ Pv (i + 1) (upd H5 D (.dK (putK kvs k z))) else Pv (i + 1) H3) (hd : ∀ H, Pv xs.length H → Qd H) :
    ∃ W : Nat → Nat → Hp → Prop, (∃ m, W 0 m (upd H1 D (.dK []))) ∧ ∀ i m H, W i m H →
      ((Itl K a).stop i H ∧ Qd H) ∨ ((Itl K a).go i H ∧ ∃ Nx : Hp → Prop, (∀ H', Nx H' → ∃ m', m' < m ∧ W (i + 1) m' H') ∧ ∀ x H', (Itl K a).yld i H x H' → g x (wipe σ vs) H' fun σ2 H2 => wipe σ2 vs = wipe σ vs ∧ tt σ2 H2 fun b H3 =>
        if b = true then tk σ2 H3 fun y H4 => tv σ2 H4 fun z H5 => ∃ kvs k, y = kV k ∧ H5 D = some (.dK kvs) ∧ kvs.length < sizeLine ∧ Nx (upd H5 D (.dK (putK kvs k z))) else Nx H3) := by
  refine ⟨fun i m H => m = xs.length - i ∧ i ≤ xs.length ∧ Pv i H, ⟨xs.length, by simp, Nat.zero_le _, h0⟩, ?_⟩
  rintro i m H ⟨rfl, hi, p⟩
  have q := hl i H hi p
  by_cases hlt : i < xs.length
  · refine .inr ⟨⟨xs, xs[i], q, by simp [hlt]⟩, Pv (i + 1), fun H' p' => ⟨xs.length - (i + 1), by omega, rfl, hlt, p'⟩, fun x H' y => ?_⟩
    obtain ⟨e, y⟩ := y
    subst e
    exact hs i x _ (y xs q) p
  · have e : i = xs.length := by omega
    subst e
    exact .inl ⟨⟨xs, q, Nat.le_refl _⟩, hd H p⟩
section
variable {ta tb : TE} {σ : L2.St} {H : Hp} {a : Bool} {Q : VK}
theorem go_andL (h : Val ta σ H (.bl a)) (h1 : a = true → tb σ H Q) (h2 : a = false → Q (.bl false) H) : tAndV ta tb σ H Q := h _ ⟨a, rfl, by
  cases a with
  | true => exact h1 rfl
  | false => exact h2 rfl⟩
theorem go_orL (h : Val ta σ H (.bl a)) (h1 : a = true → Q (.bl true) H) (h2 : a = false → tb σ H Q) : tOrV ta tb σ H Q := h _ ⟨a, rfl, by
  cases a with
  | true => exact h1 rfl
  | false => exact h2 rfl⟩
end
theorem go_ret {te : TE} {σ : L2.St} {H : Hp} {D : Ends} (q : te σ H D.rt) : tRet te D σ H := q
theorem but_mut {H H' : Hp} {p o : Addr} {x : HO} (h : But p H H') (n : H o = none) : But p H (upd H' o x) := fun b y nb e => by
  rw [upd_ne (ne_of_none e n)]
  exact h b y nb e
theorem go_min {x y : Int} {H : Hp} {Q : V → Hp → Prop} (q : Q (V.int (if y < x then y else x)) H) : ∃ i j : Int, [V.int x, V.int y] = [V.int i, V.int j] ∧ Q (V.int (if j < i then j else i)) H := ⟨x, y, rfl, q⟩
end LW
set_option Elab.async false
set_option linter.all false
set_option maxRecDepth 100000
set_option maxHeartbeats 4000000
/-! LWFast: steps that keep the goals small: ends are written out (no projections of written-out ends pile up), loops with unnamed ends. -/
namespace LW
open PySem PySem.Spec PyProof.Rows L2 TL
section
variable {σ : L2.St} {H : Hp} {n b c : L2.St → Hp → Prop} {r : VK} {t1 t2 : TS} {te : TE} {g : TG} {tc : TT}
theorem go_seqM (q : t1 ⟨t2 ⟨n, r, b, c⟩, r, b, c⟩ σ H) : tSeq t1 t2 ⟨n, r, b, c⟩ σ H := q
theorem go_nextM (q : n σ H) : tNext ⟨n, r, b, c⟩ σ H := q
theorem go_contM (q : c σ H) : tCont ⟨n, r, b, c⟩ σ H := q
theorem go_brkM (q : b σ H) : tBreak ⟨n, r, b, c⟩ σ H := q
theorem go_retM (q : te σ H r) : tRet te ⟨n, r, b, c⟩ σ H := q
theorem go_asgM (q : te σ H fun x H1 => g x σ H1 n) : tAsg te g ⟨n, r, b, c⟩ σ H := q
theorem go_cutM (M : L2.St → Hp → Prop) (h : t1 ⟨M, r, b, c⟩ σ H) (k : ∀ σ' H', M σ' H' → t2 ⟨n, r, b, c⟩ σ' H') : Evl.tCut t1 t2 ⟨n, r, b, c⟩ σ H := ⟨M, h, k⟩
theorem go_test {Q : Bool → Hp → Prop} (q : te σ H fun v H1 => ∃ b, v = .bl b ∧ Q b H1) : tTest te σ H Q := q
theorem go_rI0 {h : Int → Int → V} {i j : Int} {Q : VK} (q : Q (h i j) H) : rI0 h (.int i) (.int j) H Q := ⟨_, _, rfl, rfl, q⟩
theorem go_gcons {gs : TGs} {v : V} {vs : List V} {Q : L2.St → Hp → Prop} (q : g v σ H fun σ' H' => gs vs σ' H' Q) : gCons g gs (v :: vs) σ H Q := ⟨_, _, rfl, q⟩
theorem go_gnil {Q : L2.St → Hp → Prop} (q : Q σ H) : gNil [] σ H Q := ⟨rfl, q⟩
end
theorem go_op {r : R2} {ta tb : TE} {σ : L2.St} {H : Hp} {Q : VK} (q : ta σ H fun x H1 => tb σ H1 fun y H2 => r x y H2 Q) : tOp r ta tb σ H Q := q
theorem go_var {i : Nat} {v : V} {σ : L2.St} {H : Hp} {Q : VK} (e : σ[i]? = some (some v)) (q : Q v H) : tVar i σ H Q := ⟨v, e, q⟩
theorem go_rng1 {ta : TA} {σ : L2.St} {H : Hp} {R : L2.It → Hp → Prop} (q : ta σ H fun vs H1 => ∃ j : Int, vs = [.int j] ∧ -(2 ^ 62) ≤ j ∧ j < 2 ^ 62 ∧ R (Itr 0 j.toNat) H1) : iRng1 ta σ H R := q
theorem for_rangeQ {lo : Int} {n : Nat} {g : TG} {tb : TS} {D : Ends} {σ : L2.St} {H : Hp} (R : VK) (hR : D.rt = R) (Pv : Nat → L2.St → Hp → Prop) (h0 : Pv 0 σ H)
    (hs : ∀ (N X : L2.St → Hp → Prop) i σ H, i < n → Pv i σ H → (∀ σ' H', Pv (i + 1) σ' H' → N σ' H') → g (.int (lo + i)) σ H fun σ2 H2 => tb ⟨N, R, X, N⟩ σ2 H2) (hd : ∀ σ H, Pv n σ H → D.nx σ H) :
    ∃ W : Nat → Nat → L2.St → Hp → Prop, (∃ m, W 0 m σ H) ∧ ∀ i m σ H, W i m σ H →
      ((Itr lo n).stop i H ∧ D.nx σ H) ∨ ((Itr lo n).go i H ∧ ∃ N : L2.St → Hp → Prop, (∀ σ' H', N σ' H' → ∃ m', m' < m ∧ W (i + 1) m' σ' H') ∧ ∀ x H', (Itr lo n).yld i H x H' → g x σ H' fun σ2 H2 => tb { D with nx := N, ct := N, bk := D.nx } σ2 H2) := by
  subst hR
  exact for_range Pv h0 (fun i σ H hi hP => hs (Pv (i + 1)) D.nx i σ H hi hP fun _ _ h => h) hd
theorem for_listQ {K : PySem.W.Frag} {a : Addr} {xs : List V} {g : TG} {tb : TS} {D : Ends} {σ : L2.St} {H : Hp} (R : VK) (hR : D.rt = R) (Pv : Nat → L2.St → Hp → Prop) (h0 : Pv 0 σ H) (hl : ∀ i σ H, i ≤ xs.length → Pv i σ H → SqL K H a xs)
    (hs : ∀ (N X : L2.St → Hp → Prop) i x σ H, xs[i]? = some x → Pv i σ H → (∀ σ' H', Pv (i + 1) σ' H' → N σ' H') → g x σ H fun σ2 H2 => tb ⟨N, R, X, N⟩ σ2 H2) (hd : ∀ σ H, Pv xs.length σ H → D.nx σ H) :
    ∃ W : Nat → Nat → L2.St → Hp → Prop, (∃ m, W 0 m σ H) ∧ ∀ i m σ H, W i m σ H →
      ((Itl K a).stop i H ∧ D.nx σ H) ∨ ((Itl K a).go i H ∧ ∃ N : L2.St → Hp → Prop, (∀ σ' H', N σ' H' → ∃ m', m' < m ∧ W (i + 1) m' σ' H') ∧ ∀ x H', (Itl K a).yld i H x H' → g x σ H' fun σ2 H2 => tb { D with nx := N, ct := N, bk := D.nx } σ2 H2) := by
  subst hR
  exact for_list Pv h0 hl (fun i x σ H hi hP => hs (Pv (i + 1)) D.nx i x σ H hi hP fun _ _ h => h) hd
theorem for_tupQ {K : PySem.W.Frag} {a : Addr} {xs : List V} {g : TG} {tb : TS} {D : Ends} {σ : L2.St} {H : Hp} (R : VK) (hR : D.rt = R) (Pv : Nat → L2.St → Hp → Prop) (h0 : Pv 0 σ H) (hl : ∀ i σ H, i ≤ xs.length → Pv i σ H → SqT K H a xs)
    (hs : ∀ (N X : L2.St → Hp → Prop) i x σ H, xs[i]? = some x → Pv i σ H → (∀ σ' H', Pv (i + 1) σ' H' → N σ' H') → g x σ H fun σ2 H2 => tb ⟨N, R, X, N⟩ σ2 H2) (hd : ∀ σ H, Pv xs.length σ H → D.nx σ H) :
    ∃ W : Nat → Nat → L2.St → Hp → Prop, (∃ m, W 0 m σ H) ∧ ∀ i m σ H, W i m σ H →
      ((Itt K a).stop i H ∧ D.nx σ H) ∨ ((Itt K a).go i H ∧ ∃ N : L2.St → Hp → Prop, (∀ σ' H', N σ' H' → ∃ m', m' < m ∧ W (i + 1) m' σ' H') ∧ ∀ x H', (Itt K a).yld i H x H' → g x σ H' fun σ2 H2 => tb { D with nx := N, ct := N, bk := D.nx } σ2 H2) := by
  subst hR
  exact for_tup Pv h0 hl (fun i x σ H hi hP => hs (Pv (i + 1)) D.nx i x σ H hi hP fun _ _ h => h) hd
/-- a list over the signs of a text -/
theorem lc_strL {z : Str} {g : TG} {tt : TT} {te : TE} {vs : List Nat} {σ : L2.St} {H1 : Hp} {D : Addr} {Qd : Hp → Prop} (Pv : Nat → Hp → Prop) (h0 : Pv 0 (upd H1 D (.lst [])))
    (hs : ∀ i c H, (tl z)[i]? = some c → Pv i H → g (.str (sg c)) (wipe σ vs) H fun σ2 H2 => wipe σ2 vs = wipe σ vs ∧ tt σ2 H2 fun b H3 =>
      if b = true then te σ2 H3 fun y H4 => ∃ acc, H4 D = some (.lst acc) ∧ acc.length < sizeLine ∧ Pv (i + 1) (upd H4 D (.lst (acc ++ [y]))) else Pv (i + 1) H3) (hd : ∀ H, Pv (tl z).length H → Qd H) :
    ∃ W : Nat → Nat → Hp → Prop, (∃ m, W 0 m (upd H1 D (.lst []))) ∧ ∀ i m H, W i m H →
      ((Its z).stop i H ∧ Qd H) ∨ ((Its z).go i H ∧ ∃ Nx : Hp → Prop, (∀ H', Nx H' → ∃ m', m' < m ∧ W (i + 1) m' H') ∧ ∀ x H', (Its z).yld i H x H' → g x (wipe σ vs) H' fun σ2 H2 => wipe σ2 vs = wipe σ vs ∧ tt σ2 H2 fun b H3 =>
        if b = true then te σ2 H3 fun y H4 => ∃ acc, H4 D = some (.lst acc) ∧ acc.length < sizeLine ∧ Nx (upd H4 D (.lst (acc ++ [y]))) else Nx H3) := by
  have el : (tl z).length = z.cps.size := by simp
  refine ⟨fun i m H => m = (tl z).length - i ∧ i ≤ (tl z).length ∧ Pv i H, ⟨(tl z).length, by simp, Nat.zero_le _, h0⟩, ?_⟩
  rintro i m H ⟨rfl, hi, p⟩
  by_cases hlt : i < (tl z).length
  · refine .inr ⟨(show i < z.cps.size by omega), Pv (i + 1), fun H' p' => ⟨(tl z).length - (i + 1), by omega, rfl, hlt, p'⟩, fun x H' y => ?_⟩
    obtain ⟨rfl, c, hc, rfl⟩ := y
    exact hs i c _ (by rw [← hc]; simp) p
  · have e : i = (tl z).length := by omega
    subst e
    exact .inl ⟨Nat.le_of_eq el.symm, hd H p⟩
end LW
set_option Elab.async false
set_option linter.all false
set_option maxRecDepth 100000
set_option maxHeartbeats 4000000
/-! CompX (for L2.CX): a list comprehension whose element may let an exception out (out of a def that it calls). -/
namespace LW
open PySem PySem.Spec PyProof.Rows L2
/-- a smaller ground bears the frames, too -/
theorem frames_less {h B B' : Heap} (k : ∀ b, B.get? b = none → B'.get? b = none) : ∀ {l : List Env}, h.FunFrames B l → h.FunFrames B' l
  | [], _ => trivial
  | _ :: _, ⟨a, ⟨L, o, c, d, e⟩, r⟩ => ⟨a, ⟨L, o, c, k L d, e⟩, frames_less k r⟩
theorem hide1_none {B : Heap} {C b : Addr} (h : B.get? b = none) : (PySem.W.hideAll B [C]).get? b = none := by
  cases e : (PySem.W.hideAll B [C]).get? b with
  | none => rfl
  | some o =>
    rw [PySem.W.of_hideAll _ e] at h
    cases h
theorem hide1_some {B : Heap} {C b : Addr} {o : Obj} (h : (PySem.W.hideAll B [C]).get? b = some o) : b ≠ C ∧ B.get? b = some o :=
  ⟨fun z => absurd ((PySem.W.hideAll_none (h := B) [C] (b := b) (by simp [z])).symm.trans h) (fun q => by cases q), PySem.W.of_hideAll _ h⟩
/-- what is held stays held where the block C is let go -/
theorem held_less {h h' B : Heap} {l : List Env} {a L C : Addr} {Z : Obj → Prop} {m m' : Str → Option Value} (x : HandSPX.HeldZ B l a Z L h) (hn : h.Ns C m) (hn' : h'.Ns C m') (sb : Heap.SameBut C h h') : HandSPX.HeldZ (PySem.W.hideAll B [C]) l a Z L h' := by
  obtain ⟨x1, x2, x3, oe, vs, T, oT, ts, t1, t2, t3, t4, t5, t6, t7, t8, t9⟩ := x
  obtain ⟨oC, es, ep, c1, c2, _⟩ := id hn
  have na : a ≠ C := fun z => by
    rw [z, c1] at t1
    cases t1
    rw [c2] at t3
    cases t3
  have nT : T ≠ C := fun z => by
    rw [z, c1] at t7
    cases t7
    rw [c2] at t8
    cases t8
  refine ⟨fun b o e => ?_, hide1_none x2, frames_less (fun b e => hide1_none e) (Heap.FunFrames.sameBut sb hn' x3), oe, vs, T, oT, ts, (sb.2 a na).trans t1, t2, t3, t4, hide1_none t5, t6, (sb.2 T nT).trans t7, t8, t9⟩
  obtain ⟨e1, e2⟩ := hide1_some e
  exact (sb.2 b e1).trans (x1 b o e2)
section
variable {X : Cx} {pins : List (Addr × Obj)} {σ : L2.St} {H : Hp} {s s' : Shared} {W : WX} {E : XK}
/-- an exception out of a call within a block C of X: it is noted, the block is let go, it goes on -/
theorem block_raise (hs : X.stack = X.env :: X.outer) (hf : X.env.frame = some X.env.locals) (I : Inv X pins σ H s) (tk : L2.Takes X W) (hW : ∀ cls d σ H, E cls d H → W cls d σ H) {C : Addr} {ce : Env} {m : Str → Option Value} (hcl : ce.locals = C) (hcf : ce.frame = X.env.frame)
    (hC : s.heap.Ns C m) (fC : FpOk X pins H C) (nC : C ∉ frs X.stack) (pC : ∀ p ∈ X.pn, p.1 ≠ C) {u : Value} (c : L2.CX X.prog X.w X.stack H s E u s') :
    notedBy (model X.prog X.w) X.A ce (fun e s'' => CompFails (model X.prog X.w) X.A X.xe ce e s'') u s' := by
  obtain ⟨oC, es, ep, hC1, hC2, hC3⟩ := hC
  have sC : s'.heap.get? C = some oC := by
    obtain ⟨a, B, H', cls, d, rfl, fl, hok, ub, na, os, ag, hE⟩ := c
    exact fl.1 _ _ (ub.keep C oC hC1 fC.1 nC)
  have c2 : L2.CX X.prog X.w X.stack H s (fun cls d H' => E cls d H' ∧ H' C = none) u s' := by
    obtain ⟨a, B, H', cls, d, rfl, fl, hok, ub, na, os, ag, hE⟩ := c
    exact ⟨a, B, H', cls, d, rfl, fl, hok, ub, na, os, ag, hE, ub.free C oC hC1 fC.1⟩
  have x : L2.XE X (fun cls d σ' H' => E cls d H' ∧ H' C = none) u s' := L2.XE.of_call I (fun _ _ _ h => h) c2
  obtain ⟨a, B, sI, pX, σX, HX, cls, d, rfl, J, nb, up, sky, na, os, ag, hE, hXC⟩ := x
  have hfr : X.A.frames = some (X.env :: X.outer) := by rw [I.ok.frames, hs]
  have ens : s'.heap.Ns C m := ⟨oC, es, ep, sC, hC2, hC3⟩
  -- behind the note
  have fin : ∀ h1, HandSPX.HeldZ B X.stack a (Zc cls d) X.env.locals h1 → s'.heap.UpToSlots h1 → CompFails (model X.prog X.w) X.A X.xe ce (.ref a) { s' with heap := h1 } := fun h1 hh up1 => by
    have n1 : h1.Ns C m := up1.ns ens
    refine ⟨m, by rw [hcl]; exact n1, fun h2 m2 n2 sb => ?_⟩
    rw [hcl] at n2 sb
    have hh2 := held_less hh n1 n2 sb
    obtain ⟨oe, vs, T, oT, ts, t1, t2, t3, t4, t5, t6, t7, t8, t9⟩ := id hh2.2.2.2
    unfold PySem.passOn
    refine wpAny_bind (wpAny_field t1 t3 t4 ?_)
    rw [if_neg (show ¬ ((Value.ref T == Value.none) = true) from by simp)]
    have last : wpAny (model X.prog X.w) X.A (setFlight (.ref a) ce.frame) (fun _ s4 => wpAny (model X.prog X.w) X.A (throw (.ref a) : Sem Value) (fun _ _ => False) X.xe s4) X.xe { s' with heap := h2 } := by
      rw [hcf, hf]
      refine HandSPX.setFlight_onZ hh2 fun h3 hh3 up3 => wpAny_throw (tk _ _ ?_)
      have J2 : Inv X [] σX HX { sI with heap := PySem.W.hideAll sI.heap [C] } := by
        have J1 : Inv X [] σX HX sI := (show Inv X ([] ++ pX) σX HX sI from J).unpinned
        refine J1.turned (t' := sI.toks) (it := C) (fun b o n e => PySem.W.hideAll_get [C] e (by simpa using n)) hXC fC.2.1 fC.2.2.2.1 fC.2.2.2.2.1 fun p hp => ?_
        rw [List.append_nil] at hp
        exact pC p hp
      refine ⟨a, PySem.W.hideAll B [C], _, [], σX, HX, cls, d, rfl, J2, fun b o e n => ?_, fun b o e n => ?_, .inr (.inr hh3), na, os, ag, hW _ _ _ _ hE⟩
      · obtain ⟨e1, e2⟩ := hide1_some e
        exact PySem.W.hideAll_get [C] (nb b o e2 n) (by simpa using e1)
      · obtain ⟨e1, e2⟩ := hide1_some e
        obtain ⟨sl, q⟩ := up b o e2 n
        obtain ⟨sl1, q1⟩ := up1 b _ q n
        exact up3 b { o with slots := sl1 } ((sb.2 b e1).trans q1) n
    first
      | exact wpAny_bind (wpAny_pure (wpAny_bind last))
      | exact wpAny_bind last
  have same : noteFrame (.ref a) ce = noteFrame (.ref a) X.env := by
    unfold noteFrame PySem.frameOf
    rw [hcf]
  show wpAny (model X.prog X.w) X.A (noteFrame (.ref a) ce) _ _ s'
  rw [same]
  rw [hs] at sky fin
  rcases sky with ⟨hB, hn, hl, oe, vs, he, hz, hd, h1⟩ | fl | hd
  · exact HandSPX.look_newZ Zc.steady hfr hl hf he hB hn hd h1 hz fin
  · exact HandSPX.looks_onZ Zc.steady hfr hf fl fin
  · exact HandSPX.againZ hf hd.2.2.2 (fin s'.heap hd (Heap.UpToSlots.refl _))
end
section
variable {X : Cx}
/-- [elt for target in iter if ..], elt may let an exception out -/
theorem pe_lcX {elt tg iter : Expr} {ifs : List Expr} {scope : Scope} {own : List (Str × Nat)} {pos : Pos} {wi : TI} {g : TG} {tt : TT} {te : TE} {W : WX} {E : XK} (hs0 : X.stack = X.env :: X.outer) (hf0 : X.env.frame = some X.env.locals) (tk : L2.Takes X W) (hW : ∀ cls d σ H, E cls d H → W cls d σ H)
    (hc : X.calm = true) (hN : X.N.Nodup) (hi : PI X tg iter wi) (ok : BlkOk X.N X.env.scope scope own)
    (hg : ∀ (s : Shared) (H : Hp) (C : Addr) (cl : List (Str × Addr)) (fp : List Addr), PG (X.blk s H scope (compEnvC scope cl C X.env) fp) tg g)
    (ht : ∀ (s : Shared) (H : Hp) (C : Addr) (cl : List (Str × Addr)) (fp : List Addr), PTs (X.blk s H scope (compEnvC scope cl C X.env) fp) ifs tt)
    (he : ∀ (s : Shared) (H : Hp) (C : Addr) (cl : List (Str × Addr)) (fp : List Addr) (pn : List (Addr × Obj)) (xe : Value → Shared → Prop), Passes (L2.CX X.prog X.w) ((X.blk s H scope (compEnvC scope cl C X.env) fp).tr pn xe) E →
      PE ((X.blk s H scope (compEnvC scope cl C X.env) fp).tr pn xe) elt te)
    (hs : ∀ x, foldedSetIterable iter X.env x = pure x := by intro _; rfl) : PE X (.ListComp elt [⟨tg, iter, ifs, 0⟩] scope pos) (tLc wi g tt te (own.map (·.2))) := by
  refine ⟨fun pins s σ H Q I h => ?_⟩
  rw [eval_ListComp]
  have caught : ∀ y ∈ scope.names, y.2 = .free → ∃ c, X.env.cells.lookup y.1 = some c := fun y hy z => (ok.free y hy z).elim (fun k => I.ok.has _ (.inl k)) fun k => I.ok.has _ (.inr k)
  refine comprehension_at (use := none) rfl hs (closure_ok caught) ok.kind (fun y hy z => by rw [ok.uniq y hy, z]) (thn (hi.run pins s σ H _ I h) fun xv s1 hx => thn hx fun itv s2 hit => ?_)
  obtain ⟨it, fp, tn, J, H2, rfl, I2, T, st2, f2, q⟩ := hit
  refine wpAny_newObj_type (newEnv_comp ?_) (Nat.zero_le _)
  obtain ⟨D, hD⟩ : ∃ D, s2.heap.objs.size = D := ⟨_, rfl⟩
  rw [hD]
  have freeD : H2 D = none := I2.hok.fresh (Nat.le_of_eq hD)
  obtain ⟨Wl, ⟨m0, w0⟩, turn⟩ := q D freeD
  -- the list stands
  obtain ⟨s3, hs3⟩ : ∃ s3 : Shared, ({ s2 with heap := s2.heap.push { cls := .type "list", data := .seq ([] : List Value).toArray } } : Shared) = s3 := ⟨_, rfl⟩
  have heap3 : s3.heap = s2.heap.push { cls := .type "list", data := .seq ([] : List Value).toArray } := by rw [← hs3]
  have I3 : Inv X pins σ (upd H2 D (.lst [])) s3 := by
    rw [← hs3]
    exact I2.laid (t' := s2.toks) (fun b o z => Heap.get?_push_of_some _ z) (Nat.le_of_eq hD) ⟨Nat.zero_le _, [], 0, .nil, by rw [← hD]; exact Heap.get?_push_size _ rfl⟩
  have below : ∀ b ∈ fp, b < s2.heap.objs.size := fun b hb => let ⟨_, z, _⟩ := T.obj _ _ st2 b hb; Heap.lt_size z
  obtain ⟨H3, hH3⟩ : ∃ H3, upd H2 D (.lst []) = H3 := ⟨_, rfl⟩
  rw [hH3] at I3 w0
  have f3 : ∀ b ∈ fp, FpOk X pins H3 b ∧ b < s3.heap.objs.size := fun b hb => by
    have lt := below b hb
    refine ⟨⟨?_, (f2 b hb).2⟩, ?_⟩
    · rw [← hH3, upd_ne (fun z => Nat.lt_irrefl _ (by rw [z, ← hD] at lt; exact lt))]
      exact (f2 b hb).1
    · rw [heap3, Heap.size_push]
      exact Nat.lt_succ_of_lt lt
  have st3 : tn 0 s3.heap := T.keep _ _ _ st2 fun b _ o z => by
    rw [heap3]
    exact Heap.get?_push_of_some _ z
  have I4 := block_start I3 ok hN f3
  obtain ⟨cl, hcl⟩ : ∃ cl, cellsFrom (s3.heap.objs.size + 1) scope.names (cloFrom X.env.cells scope.names []) = cl := ⟨_, rfl⟩
  obtain ⟨C, hCs⟩ : ∃ C, s3.heap.objs.size = C := ⟨_, rfl⟩
  rw [hs3]
  show codeAny _ _ (.compStart (.ListComp elt [⟨tg, iter, ifs, 0⟩] scope pos) 0 (.ref it) (.ref D) (compEnvC scope (cellsFrom (s3.heap.objs.size + 1) scope.names (cloFrom X.env.cells scope.names [])) s3.heap.objs.size X.env))
    (compEnds (model X.prog X.w) X.A X.xe none (EP X pins σ Q) (.ref D) (compEnvC scope (cellsFrom (s3.heap.objs.size + 1) scope.names (cloFrom X.env.cells scope.names [])) s3.heap.objs.size X.env)) { s3 with heap := pushCells (s3.heap.push { cls := .type "dict", data := .dict #[] }) scope.names }
  rw [hcl] at I4 ⊢
  have pg := hg s3 H3 C cl fp
  have pt := ht s3 H3 C cl fp
  have pe := he s3 H3 C cl fp
  rw [hCs] at I4 ⊢
  obtain ⟨ce, hce⟩ : ∃ ce, compEnvC scope cl C X.env = ce := ⟨_, rfl⟩
  have ceL : ce.locals = C := by rw [← hce]; rfl
  have ceF : ce.frame = X.env.frame := by rw [← hce]; rfl
  rw [hce] at I4 pg pt pe ⊢
  obtain ⟨s4, hs4⟩ : ∃ s4 : Shared, ({ s3 with heap := pushCells (s3.heap.push { cls := .type "dict", data := .dict #[] }) scope.names } : Shared) = s4 := ⟨_, rfl⟩
  have st4 : tn 0 s4.heap := T.keep _ _ _ st3 fun b _ o z => by
    rw [← hs4]
    exact pushCells_keeps _ _ _ _ (Heap.get?_push_of_some _ z)
  rw [hs4] at I4 ⊢
  have freeFp : ∀ b ∈ fp, H3 b = none := fun b hb => (f3 b hb).1.1
  -- the outer context at a moment within the block
  have outer : ∀ {H' : Hp} {s' : Shared}, s'.os = s3.os → Un (frs X.stack) fp H3 H' s3.heap s'.heap → HOk X.prog X.w H' s'.heap → AllBare s'.gens → Inv X pins σ H' s' := fun o u k g =>
    I3.call' (ch := fp) o u k g fun b hb => ⟨(f3 b hb).1.2.2.2.1, (f3 b hb).1.2.1, (f3 b hb).1.2.2.2.2.1, (f3 b hb).1.2.2.2.2.2⟩
  have fpIn : ∀ {σ' : L2.St} {H' : Hp} {s' : Shared}, Inv (X.blk s3 H3 scope ce fp) [] σ' H' s' → (∀ b ∈ fp, H' b = none) → ∀ b ∈ fp, FpOk (X.blk s3 H3 scope ce fp) [] H' b := fun {σ' H' s'} J' n b hb =>
    ⟨n b hb, (J'.ok.exf b hb).1, J'.ok.exfs b hb, .inl hb, fun x c z => (J'.ok.exf b hb).2 x c z, fun p hp => by cases hp⟩
  have loop : codeAny (model X.prog X.w) X.A (.compLoop (.ListComp elt [⟨tg, iter, ifs, 0⟩] scope pos) 0 (.ref it) (.ref D) ce) (compEnds (model X.prog X.w) X.A X.xe none (EP X pins σ Q) (.ref D) ce) s4 := by
    refine compLoop_any (fun n s' => ∃ i H', Inv (X.blk s3 H3 scope ce fp) [] (wipe σ (own.map (·.2))) H' s' ∧ tn i s'.heap ∧ (∀ b ∈ fp, H' b = none) ∧ Wl i n H') ?_ m0 ⟨0, H3, I4, st4, freeFp, w0⟩
    rintro n s5 ⟨i, H5, I5, st5, n5, w5⟩
    rcases turn i n H5 w5 with ⟨stop, qq⟩ | ⟨go, Nx, hNx, step⟩
    · refine thnF (T.done (X.blk s3 H3 scope ce fp) rfl rfl rfl hc i [] s5 _ H5 (fun _ _ => False) I5 (fpIn I5 n5) st5 stop) fun r s6 ⟨hr, I6⟩ => ?_
      subst hr
      have I7 : Inv X pins σ H5 s6 := outer I6.os I6.base I6.hok I6.bare
      have nC : H5 C = none := by
        rw [← ceL]
        exact I6.free
      obtain ⟨m, hm, _⟩ := I6.loc
      have hm : s6.heap.Ns ce.locals m := hm
      obtain ⟨g0, g1, g2, g3, g4, g5⟩ := I3.fpOk (H' := H5) (Nat.le_of_eq hCs) nC
      refine ⟨m, hm, fun h'' sb => ?_⟩
      rw [ceL] at sb
      exact ⟨.ref D, H5, I7.turned (t' := s6.toks) (fun b o hb z => (sb.2 b hb).trans z) g0 g1 g3 g4 g5, rfl, qq⟩
    · refine thnF (T.item (X.blk s3 H3 scope ce fp) rfl rfl rfl hc i [] s5 _ H5 (fun _ _ => False) I5 (fpIn I5 n5) st5 go) fun r s6 ⟨u, hr, h6⟩ => ?_
      subst hr
      refine thnF h6 fun _ s7 ⟨x, H7, I7, r7, y7, st7, n7⟩ => ?_
      refine thnF (pg.run _ s7 _ H7 x u _ (I7.pinned (fpIn I7 n7) (T.obj _ _ st7)) r7 (step x H7 y7)) fun _ s8 ⟨σ8, H8, I8, hw8, q8⟩ => ?_
      refine thnF (pt.run _ s8 σ8 H8 _ I8 q8) fun b s9 ⟨H9, I9, q9⟩ => ?_
      have done : ∀ {s' : Shared} {H' : Hp}, Inv (X.blk s3 H3 scope ce fp) ([] ++ pinsAt fp s7.heap) σ8 H' s' → Nx H' → ∃ m, m < n ∧ ∃ i H', Inv (X.blk s3 H3 scope ce fp) [] (wipe σ (own.map (·.2))) H' s' ∧ tn i s'.heap ∧ (∀ b ∈ fp, H' b = none) ∧ Wl i m H' := fun {s' H'} J' nx => by
        obtain ⟨m', lt, w'⟩ := hNx H' nx
        have at' : ∀ b ∈ fp, ∀ o, s7.heap.get? b = some o → s'.heap.get? b = some o ∧ H' b = none := fun b hb o z =>
          let y := J'.pin (b, o) (List.mem_append_right _ (List.mem_append_right _ (mem_pinsAt hb z)))
          ⟨y.1, y.2.1⟩
        refine ⟨m', lt, i + 1, H', (J'.unpinned (pins := [])).weak (by rw [← hw8, wipe_length]) (fun j v z => ?_), T.keep _ _ _ st7 fun b hb o z => (at' b hb o z).1, fun b hb => ?_, w'⟩
        · rw [← hw8] at z
          exact (wipe_some z).1
        · obtain ⟨o, z, _⟩ := T.obj _ _ st7 b hb
          exact (at' b hb o z).2
      cases b with
      | false =>
        simp only [Bool.false_eq_true, if_false] at q9 ⊢
        exact done I9 q9
      | true =>
        simp only [if_true] at q9 ⊢
        have passes : Passes (L2.CX X.prog X.w) ((X.blk s3 H3 scope ce fp).tr ([] ++ ([] ++ pinsAt fp s7.heap)) (notedBy (model X.prog X.w) X.A ce fun e s' => CompFails (model X.prog X.w) X.A X.xe ce e s')) E := fun pins' σ' H' s' e s'' J' c => by
          have nC : H' C = none := by
            rw [← ceL]
            exact J'.free
          obtain ⟨m, hm, _⟩ := J'.loc
          have hm : s'.heap.Ns ce.locals m := hm
          rw [ceL] at hm
          have g := I3.fpOk (H' := H') (Nat.le_of_eq hCs) nC
          refine block_raise hs0 hf0 (outer J'.os J'.base J'.hok J'.bare) tk hW ceL ceF hm g (fun z => ?_) (fun p hp => g.2.2.2.2.2 p (List.mem_append_left _ hp)) c
          rcases List.mem_cons.mp (I3.stkSub C z) with y | y
          · exact g.2.1 y
          · exact g.2.2.1 y
        refine wpAny_mono ((pe _ _ passes).run _ s9 σ8 H9 _ (I9.toTry _) q9) (fun z s10 ⟨yv, H10, I10, r10, acc, hD10, hz10, nx⟩ => ?_) fun _ _ z => z
        refine thnF ?_ fun _ _ z => z
        exact app_ok (X := X.blk s3 H3 scope ce fp) (I10.ofTry I9.ok) hD10 hz10 r10 fun s11 I11 => done I11 nx
  exact codeAny_compStart_list loop (T.self X.A 0 _ _ _ st4 loop)
end
end LW
set_option Elab.async false
set_option linter.all false
set_option maxRecDepth 100000
set_option maxHeartbeats 4000000
/-! ErrInit: Base.__init__(self, ..), Base a class of the text over ValueError that has no __init__ of its own. -/
namespace LW
open PySem PySem.Spec PyProof.Rows L2
/-- what the base class must have -/
structure BaseC (K : PySem.W.Frag) (C : Addr) : Prop where
  get : PySem.W.specialIn K (.ref C) "__getattribute__" = some (some (.builtin "type.__getattribute__"))
  reads : PySem.W.readsIn K C (.type "type") = true
  init : PySem.W.findCls K (.ref C) (.type "type") "__init__" = some (.val (.builtin "ValueError.__init__"))
section
variable {X : Cx} {e : Expr} {es : List Expr} {ta : TA} {x : Str} {p1 p2 pos : Pos}
theorem pe_baseinit {C0 : Addr} {pl : Sem Bool} (hg : Gl X x) (hm : X.mg x = some (.ref C0)) (B : BaseC X.K C0) (ha : PA X (e :: es) ta)
    (form : eval (.Call (.Attribute (.Name x p1) "__init__" p2) (e :: es) [] pos) X.env = (do
      let cls ← eval (.Name x p1) X.env
      standAt p2.atName
      let (g, front) ← holding [cls] (getMethod cls "__init__" pl)
      callWith pos g front (backTo pos (starEach (e :: es) X.env)) (backToKw pos (keywordEach [] X.env))) := by rfl)
    (each : starEach (e :: es) X.env = (false, eval e X.env) :: starEach es X.env := by rfl) (plain : (backTo pos (starEach es X.env)).any (·.1) = false := by rfl) (hd : (x == ("__debug__" : Str)) = false := by decide) :
    PE X (.Call (.Attribute (.Name x p1) "__init__" p2) (e :: es) [] pos) (tVeI X.K ta) := by
  refine ⟨fun pins s σ H Q I h => ?_⟩
  refine PySem.W.methodCall_KW (ld_glob I hg hm ?_ hd) form
  refine PySem.W.method_cls I.kIn B.get (PySem.W.cls_value I.kIn B.reads B.init (by decide +kernel) ?_)
  show wpAny _ _ (callWith pos (Value.builtin "ValueError.__init__") [] (backTo pos (starEach (e :: es) X.env)) []) _ _ _
  refine PyProof.Rows.callWith_method1 (thn (ha.run pos pins _ σ H _ (I.tok _) h) fun us s1 ⟨vs, H1, I1, r1, a, C, ws, ev, hl, T, ea, q⟩ => ?_) each plain
  subst ev
  cases r1 with
  | @cons _ u0 _ ur ra rest =>
    obtain rfl : u0 = Value.ref a := ra
    refine oinit_ok T I1 ea ?_ fun s' J => ⟨.non, H1, J, rfl, q⟩
    have small : ur.length ≤ 1000 := by
      rw [← Paired.length rest]
      exact hl
    rw [sizeLine_eq]
    omega
end
end LW
set_option Elab.async false
set_option linter.all false
set_option maxRecDepth 100000
set_option maxHeartbeats 4000000
/-! ErrUse: an own exception class with one field: what it must have; the field read in the suite that holds it; promises of defs that raise nothing among those that raise. -/
namespace LW
open PySem PySem.Spec PyProof.Rows L2
/-- what the class at C of an own exception must have, f its field -/
structure ErrC (K : PySem.W.Frag) (C : Addr) (f : Str) : Prop where
  ox : OexC K C
  ga : PySem.W.findIn K (.ref C) "__getattribute__" = some (some (.builtin "BaseException.__getattribute__"))
  gg : PySem.W.findIn K (.ref C) "__getattr__" = some none
  no : PySem.W.findIn K (.ref C) f = some none
  hd : PySem.W.hasDictIn K C = true
  te : PySem.W.exmOne K (.ref C) (.ref C) = some true
theorem exm_self {K : PySem.W.Frag} {S : Addr} (h1 : PySem.W.subIn K (.ref S) (.type "BaseException") = some true) (h2 : PySem.W.isClsIn K S = true) (h3 : PySem.W.typeIn K (.ref S) = some (.type "type")) (h4 : PySem.W.subIn K (.ref S) (.ref S) = some true) : PySem.W.exmOne K (.ref S) (.ref S) = some true := by
  have h2' : (PySem.W.clsIn K S).isSome = true := h2
  unfold PySem.W.exmOne
  simp [h1, PySem.W.kitCls, h2', h3, h4]
section
variable {X : Cx} {C : Addr} {f : Str}
/-- e.f, e the exception that the suite holds -/
def tErrF (C : Addr) (f : Str) (a : Addr) (cls : Value) (d : Option Addr) (te : TE) : TE := fun σ H Q => te σ H fun x H1 => x = .ref a ∧ cls = .ref C ∧ ∃ (dd : Addr) (v : V), d = some dd ∧ H1 dd = some (.xd [(f, v)]) ∧ Q v H1
theorem pe_errF {a : Addr} {oe : Obj} {cls : Value} {d : Option Addr} {pn : List (Addr × Obj)} {e : Expr} {te : TE} {pos : Pos} (T : ErrC X.K C f) (hz : Zc cls d oe) (rec : ∃ vs, oe.data = .fields vs) (he : PE (X.suite a ((a, oe) :: pn)) e te)
    (base : attributeBase e f X.env (eval e X.env) = eval e X.env := by rfl) : PE (X.suite a ((a, oe) :: pn)) (.Attribute e f pos) (tErrF C f a cls d te) := by
  refine ⟨fun pins s σ H Q I h => ?_⟩
  refine attr_of base (thn (he.run pins s σ H _ I h) fun u s1 ⟨x, H1, I1, rx, ex, ec, dd, v, ed, ea, q⟩ => ?_)
  subst ex ec ed
  obtain rfl : u = Value.ref a := rx
  obtain ⟨ha, _⟩ := I1.pin (a, oe) (List.mem_append_left _ List.mem_cons_self)
  obtain ⟨vs, hd⟩ := rec
  obtain ⟨mA, hns, hr⟩ : ObjOk X.prog X.w H1 s1.heap dd (.xd [(f, v)]) := I1.hok dd _ ea
  obtain ⟨od, ho, hl⟩ := lookIn_ns hns
  have l : List.lookup f [(f, v)] = some v := by simp [List.lookup]
  obtain ⟨u, hu, ru⟩ := RelO.some_of (v := v) (o := mA f) (by rw [← l]; exact hr f)
  have J : PySem.W.InstAt s1.heap a oe C (some od) := ⟨ha, hz.1, by unfold PySem.W.notCls; rw [hd] <;> rfl, by rw [hz.2]; exact ho⟩
  exact HandSPX.exc_get I1.kIn J T.ga T.gg T.ox.exC (PySem.W.findObj_own T.hd T.no rfl (by rw [hl, hu])) (handed_of ru) ⟨v, H1, I1.tok _, ru, q⟩
end
/-- a def that raises nothing, where raising is counted -/
theorem toX {P : Program} {w : World} {K : PySem.W.Frag} {mg : Str → Option Value} {base : Heap} {CX : CXT} {k : Nat} {f : Addr} {fd : FuncData} {ps : List Str} {sp : Sp} (F : FnOk P w K mg base CX0 k f fd ps sp) : FnOk P w K mg base CX k f fd ps sp :=
  ⟨F.len, fun A outer s H args us vs Q E hr e0 hb hv hs => codeAny_mono (F.run A outer s H args us vs Q E hr e0 hb hv hs) fun r s' h => by
    cases r with
    | error u => exact (h : False).elim
    | ok fl => cases fl <;> exact h⟩
end LW
set_option Elab.async false
set_option linter.all false
set_option maxRecDepth 100000
set_option maxHeartbeats 4000000
/-! IntBig: int(text) of up to 4300 signs (the kit's rule stops at 640); K knows that nobody set another limit. -/
namespace LW
open PySem PySem.Spec PySem.Calls PySem.NumText PyProof.Rows L2
theorem wp_limit {K : PySem.W.Frag} {M : Model} {A : Around} {E : Value → Shared → Prop} {s : Shared} {Q : Nat → Shared → Prop} (X : K.In s.heap) (e : PySem.W.nsIn K cStatics "sys.int_max_str_digits" = some none) (h : Q 4300 s) : wpAny M A Builtin.intMaxStrDigits Q E s := by
  unfold Builtin.intMaxStrDigits
  exact wpAny_bind (PySem.W.looks_nsIn (M := M) X e A _ E s (fun b o z => z) (wpAny_pure h))
structure Bx (p : Prop) : Prop where
  out : p
theorem wp_long {K : PySem.W.Frag} {M : Model} {A : Around} {E : Value → Shared → Prop} {s : Shared} {Q : Value → Shared → Prop} {v : Value} {text : List Nat} {n : Int} (X : K.In s.heap) (e : PySem.W.nsIn K cStatics "sys.int_max_str_digits" = some none)
    (big : ¬ (text.takeWhile (· != 0)).length ≤ 640) (num : (int_private% "readNumeral") 4300 10 (text.takeWhile (· != 0)) = (int_private% "Numeral.value") n)
    (whole : ((text.takeWhile (· != 0)).length == text.length) = true) (q : Q (.int n s.toks) { s with toks := s.toks + 1 }) : wpAny M A ((int_private% "intFromText") v text 10) Q E s := by
  obtain ⟨hp, g, d, tk, os⟩ := s
  repeat (any_goals (first
    | assumption
    | (with_reducible refine wpAny_ite_false (decide_eq_false big) ?_)
    | (with_reducible refine wpAny_ite_true (decide_eq_true whole) ?_)
    | (with_reducible refine wp_limit X e ?_)
    | (with_reducible refine wpAny_bind (wp_limit X e ?_))
    | wp_step))
  all_goals (try rw [num])
  all_goals (try dsimp only)
  repeat (any_goals (first
    | assumption
    | (with_reducible refine wpAny_ite_true (decide_eq_true whole) ?_)
    | wp_step))
theorem meets_big {K : PySem.W.Frag} {x : Str} {u : Tok} {n : Int} (e : PySem.W.nsIn K cStatics "sys.int_max_str_digits" = some none) (hl : x.length ≤ sizeLine) (hn : intText? x = some n) :
    Meets (Builtin.«int.__new__» ⟨[.type "int", .str x u], []⟩) (fun _ R s => K.In s.heap ∧ R (.ok (.ret (.int n s.toks))) { s with toks := s.toks + 1 }) := fun prog w A R s hk => by
  refine wpAny_mono (Q := fun fin s' => ∃ v, fin = .done (.ret v) ∧ R (.ok (.ret v)) s') ?_ (fun fin s' h' => by obtain ⟨v, rfl, hv⟩ := h'; exact hv) fun _ _ z => z
  obtain ⟨X, q⟩ := hk
  obtain ⟨hp, g, d, tk, os⟩ := s
  have f1 := F.conv_sub_int
  have f2 := F.madeHere_int
  have f3 := PySem.W.KIN.str_int
  have f4 := PySem.W.KIN.str_idx
  have f5 := PySem.W.KIN.str_trunc
  have f6 : typeOf (.str x u) = pure (.type "str") := rfl
  by_cases big : (numSeenOf x).length ≤ 640
  · have facts : (int_private% "readNumeral") 0 10 (numSeenOf x) = (int_private% "Numeral.value") n ∧ ((numSeenOf x).length == (numTextOf x).length) = true := by
      rcases read0 x big with ⟨m, h1, h2, h3⟩ | ⟨h1, _⟩
      · rw [hn] at h1
        cases h1
        exact ⟨h3, h2⟩
      · rw [hn] at h1
        cases h1
    have box := Bx.mk (And.intro big facts)
    clear big facts hl hn e
    repeat (any_goals (first
      | assumption
      | ((with_reducible show wpAny _ _ ((int_private% "intFromText") _ _ _) _ _ _); refine PySem.W.KIN.wp_text box.out.1 box.out.2.1 box.out.2.2 ?_)
      | wp_step))
    all_goals first | exact ⟨_, rfl, q⟩ | skip
  · have facts : (int_private% "readNumeral") 4300 10 (numSeenOf x) = (int_private% "Numeral.value") n ∧ ((numSeenOf x).length == (numTextOf x).length) = true := by
      rcases read4300 x hl with ⟨m, h1, h2, h3⟩ | ⟨h1, _⟩
      · rw [hn] at h1
        cases h1
        exact ⟨h3, h2⟩
      · rw [hn] at h1
        cases h1
    have box := Bx.mk (And.intro big (And.intro facts (And.intro X e)))
    clear big facts hl hn e X
    repeat (any_goals (first
      | assumption
      | ((with_reducible show wpAny _ _ ((int_private% "intFromText") _ _ _) _ _ _); refine wp_long box.out.2.2.1 box.out.2.2.2 box.out.1 box.out.2.1.1 box.out.2.1.2 ?_)
      | wp_step))
    all_goals first | exact ⟨_, rfl, q⟩ | skip
/-- int(text): any text that the reading takes -/
theorem call_int_big {X : Cx} (e : PySem.W.nsIn X.K cStatics "sys.int_max_str_digits" = some none) : CallR X (.type "int") (fun xs H Q => ∃ a n, xs = [.str a] ∧ intText? a = some n ∧ a.length ≤ sizeLine ∧ Q (.int n) H) := by
  intro pins s σ H xs us Q I rs h
  obtain ⟨a, n, rfl, hn, hl, h⟩ := h
  cases rs with
  | cons r1 rs =>
    cases rs
    obtain ⟨t, rfl⟩ := r1
    exact call_int_1 (meets_big e hl hn) ⟨I.kIn, rfl, ⟨.int n, H, I.tok _, ⟨_, rfl⟩, h⟩⟩
/-- str(x), x a number of up to 4300 figures or a text -/
theorem call_str_big {X : Cx} (hc : X.calm = true) (e : PySem.W.nsIn X.K cStatics "sys.int_max_str_digits" = some none) :
    CallR X (.type "str") (fun xs H Q => (∃ i, xs = [.int i] ∧ i.natAbs < 10 ^ 4300 ∧ Q (.str (toString i)) H) ∨ ∃ a, xs = [.str a] ∧ Q (.str a) H) := by
  intro pins s σ H xs us Q I rs h
  rcases h with ⟨i, rfl, hi, q⟩ | h
  · cases rs with
    | cons r1 rs =>
      cases rs
      obtain ⟨t, rfl⟩ := r1
      obtain ⟨mc, ns, _⟩ := I.nolimit
      refine str_of_int_or (I.ok.hd hc) ⟨mc, ns, PySem.W.ns_none_of I.kIn ns e⟩ (fun _ => ⟨.str (toString i), H, I.tok _, ⟨_, rfl⟩, q⟩) fun big => absurd big (Nat.not_le.mpr hi)
  · exact SkE.call_str_str pins s σ H xs us Q I rs h
end LW
set_option Elab.async false
set_option linter.all false
set_option maxRecDepth 100000
set_option maxHeartbeats 4000000
/-! TokRules: text.replace('a', 'b') of written texts asks that a token is out (two texts are told apart by their tokens): defs that are called where one is out. -/
namespace LW
open PySem PySem.Spec PyProof.Rows L2
def tReplL (y z : Str) (to : TE) : TE := fun σ H Q => to σ H fun x H1 => ∃ a, x = .str a ∧ a.length + (a.length + 1) * z.length ≤ 16777216 ∧ Q (.str (Txt.replace a y z)) H1
/-- an expression that gives a token out -/
def PEP (X : Cx) (e : Expr) (t : TE) : Prop :=
  ∀ (pins : List (Addr × Obj)) (s : Shared) (σ : L2.St) (H : Hp) (Q : VK), Inv X pins σ H s → t σ H Q → wpAny (model X.prog X.w) X.A (eval e X.env) (fun u s' => 1 ≤ s'.toks ∧ EP X pins σ Q u s') X.xe s
section
variable {X : Cx} {o e : Expr} {to te : TE} {apos pos : Pos}
theorem PET.of (h : PE X e te) : PET X e te := fun pins s σ H Q _ I q => h.run pins s σ H Q I q
theorem pet_repl {y z : Str} {j0 j1 : Nat} {c0 c1 : Pos} (ho : PET X o to) (hyz : (y == z) = false) (each : starEach [.Constant (.str y) j0 c0, .Constant (.str z) j1 c1] X.env = [(false, eval (.Constant (.str y) j0 c0) X.env), (false, eval (.Constant (.str z) j1 c1) X.env)] := by rfl)
    (base : attributeBase o "replace" X.env (eval o X.env) = eval o X.env := by rfl) (line : (apos.endLine == pos.line) = true := by rfl) : PET X (.Call (.Attribute o "replace" apos) [.Constant (.str y) j0 c0, .Constant (.str z) j1 c1] [] pos) (tReplL y z to) := by
  intro pins s σ H Q h0 I h
  refine PySem.Call_method2 base each line (wpAny_mono (PySem.wpAny_toks (ho pins s σ H _ h0 I h)) (fun v s1 q => ?_) fun _ _ z => z.2)
  obtain ⟨hk, x, H1, I1, r1, a, ea, hb, q⟩ := q
  subst ea
  obtain ⟨t, rfl⟩ := _root_.id r1
  have h1 : 1 ≤ s1.toks := Nat.le_trans h0 hk
  refine ⟨"str", _, F.plainAttrs_str, F.slot_str_replace, F.type_str_replace, typeIs_str _ _ _, (fun _ z => nomatch z), Calls.callWith_builtin rfl (Calls.evalArgs_plain (Calls.spliced_cons (Calls.Constant_str ?_)))⟩
  refine Calls.spliced_cons (Calls.Constant_str (Calls.spliced_nil ?_))
  exact PySem.SC.replace (show s1.toks ≠ 0 by omega) (show s1.toks + 1 ≠ 0 by omega) (show s1.toks ≠ s1.toks + 1 by omega) hyz hb fun t' k => ⟨.str (Txt.replace a y z), H1, I1.tok k, ⟨t', rfl⟩, q⟩
theorem pet_split (ho : PET X o to) (he : PE X e te) (each : starEach [e] X.env = [(false, eval e X.env)] := by rfl) (base : attributeBase o "split" X.env (eval o X.env) = eval o X.env := by rfl) (line : (apos.endLine == pos.line) = true := by rfl) :
    PET X (.Call (.Attribute o "split" apos) [e] [] pos) (tM1 (fun x xs H Q => ∃ a b, x = .str a ∧ xs = [.str b] ∧ (b.length == 0) = false ∧ a.length + 2 ≤ sizeLine ∧ rNewStrs (Txt.split a b) H Q) to te) := by
  intro pins s σ H Q h0 I h
  refine PySem.Call_method1 base each line (thn (ho pins s σ H _ h0 I h) fun v s1 ⟨x, H1, I1, r1, q1⟩ => ?_)
  obtain ⟨⟨a, rfl⟩, q1⟩ := q1
  obtain ⟨t, rfl⟩ := _root_.id r1
  refine ⟨"str", _, F.plainAttrs_str, F.slot_str_split, F.type_str_split, typeIs_str _ _ _, (fun _ z => nomatch z), Calls.callWith_builtin rfl (Calls.evalArgs_plain (Calls.spliced_cons ?_))⟩
  exact thn (he.run pins s1 σ H1 _ I1 q1) fun u s2 ⟨y, H2, I2, r2, q2⟩ => Calls.spliced_nil (mt_split pins s2 σ H2 _ [y] _ [u] Q I2 r1 (.cons r2 .nil) q2)
/-- text.split('c'): the written text's token is out -/
theorem pep_split {c : Str} {j : Nat} {cp : Pos} (ho : PE X o to) (each : starEach [.Constant (.str c) j cp] X.env = [(false, eval (.Constant (.str c) j cp) X.env)] := by rfl) (base : attributeBase o "split" X.env (eval o X.env) = eval o X.env := by rfl)
    (line : (apos.endLine == pos.line) = true := by rfl) : PEP X (.Call (.Attribute o "split" apos) [.Constant (.str c) j cp] [] pos)
      (tM1 (fun x xs H Q => ∃ a b, x = .str a ∧ xs = [.str b] ∧ (b.length == 0) = false ∧ a.length + 2 ≤ sizeLine ∧ rNewStrs (Txt.split a b) H Q) to (tC (.str c))) := by
  intro pins s σ H Q I h
  refine PySem.Call_method1 base each line (thn (ho.run pins s σ H _ I h) fun v s1 ⟨x, H1, I1, r1, q1⟩ => ?_)
  obtain ⟨⟨a, rfl⟩, q1⟩ := q1
  obtain ⟨t, rfl⟩ := _root_.id r1
  refine ⟨"str", _, F.plainAttrs_str, F.slot_str_split, F.type_str_split, typeIs_str _ _ _, (fun _ z => nomatch z), Calls.callWith_builtin rfl (Calls.evalArgs_plain (Calls.spliced_cons (Calls.Constant_str (Calls.spliced_nil ?_))))⟩
  refine wpAny_mono (PySem.wpAny_toks (mt_split pins _ σ H1 _ [.str c] _ [.str c s1.toks] Q (I1.tok (s1.toks + 1)) r1 (.cons ⟨_, rfl⟩ .nil) q1)) (fun u s2 z => ⟨?_, z.2⟩) fun _ _ z => z.2
  exact Nat.le_trans (Nat.le_add_left 1 _) z.1
theorem pst_set {i : Nat} {x : Str} {pos' : Pos} (hN : X.N.Nodup) (hi : X.N[i]? = some x) (hx : Loc X.env.scope x) (he : PET X e te) (hs : swapsWith e (some (.Name x pos')) pos.line X.env = pure false := by rfl) (hf : X.fn x = true ∨ X.env.scope.names.lookup x = some .local := by first | exact .inl rfl | exact .inr rfl | assumption) :
    PST X (.Assign [.Name x pos'] e pos) (tAsg te (gName i)) := fun pins s σ H D h0 I h =>
  wpAny_Assign_Name (thn (he pins s σ H _ h0 I h) fun v s1 ⟨y, H1, I1, r1, q1⟩ => store_ok I1 hN hi hx r1 (fun s2 I2 => ⟨_, H1, I2, q1⟩) hf) hs
end
/-! ### a def that is called where a token is out -/
structure FnOkT (P : Program) (w : World) (K : PySem.W.Frag) (mg : Str → Option Value) (base : Heap) (k : Nat) (f : Addr) (fd : FuncData) (ps : List Str) (sp : Sp) : Prop where
  len : ∀ vs H Q E, sp vs H Q E → vs.length = ps.length
  run : ∀ (A : Around) (outer : List Env) (s : Shared) (H : Hp) (args : Args) (us : List Value) (vs : List V) (Q : VK) (E : XK), 1 ≤ s.toks → Room k A → Env0 P w K mg base A outer s H → BindsTo s fd args (ps.zip us) → Vals vs us → sp vs H Q E →
    codeAny (model P w) A (.call (.ref f) args) (CR CX0 outer P w H s Q E) s
theorem PSsT.nox {X : Cx} {st : List Stmt} {t : TS} (h : PSsT X.nox st t) : PSsT X st t := fun pins s σ H D tok I hw =>
  wpAny_mono (h pins s σ H D tok (I.wish _) hw) (fun _ _ q => q.unwish) fun _ _ z => False.elim z
section
variable {P : Program} {w : World} {K : PySem.W.Frag} {mg : Str → Option Value} {base : Heap}
theorem funT {x qual : Str} {st : Stmt} {f : Addr} {fd : FuncData} {N ps : List Str} {k : Nat} {sp : Sp} (F : Fun K x qual st f fd) (S : FnScope N ps (defScope st)) (len : ∀ vs H Q E, sp vs H Q E → vs.length = ps.length)
    (body : ∀ (cdv : Value) (A : Around) (outer : List Env) (s : Shared) (H : Hp) (vs : List V) (Q : VK) (E : XK), Room k (A.deeper (envOfC qual (defScope st) s.heap.objs.size f cdv)) → sp vs H Q E →
      ∃ t, PSsT (cxOf CX0 P w K mg base N qual (defScope st) f cdv A outer s H E).nox (defBody st) t ∧ t { nx := fun _ H' => Q .non H', rt := Q } (start N vs) H) : FnOkT P w K mg base (k + 1) f fd ps sp := by
  obtain ⟨oc, od, kV, doc, pm, an, cdv, ct, osl, rfl, lk, hcd⟩ := F.ex
  refine ⟨len, fun A outer s H args us vs Q E tok hr e0 hb r hsp => ?_⟩
  have many := len _ _ _ _ hsp
  have inK : K.In s.heap := e0.mod.kin.keeps fun b o z => (e0.bs b o z).1
  have noLim : s.heap.NoLimit := e0.mod.nolimit.keeps fun b o z => (e0.bs b o z).1
  have kinds : ∀ y ∈ ps.zip us, (defScope st).names.lookup y.1 = some .local ∨ ((defScope st).names.lookup y.1 = some .cell ∧ ((cellsFrom (s.heap.objs.size + 1) (defScope st).names []).lookup y.1).isSome = true) := fun ⟨n, v⟩ hy =>
    (S.par n (List.of_mem_zip hy).1).elim (fun q => .inl q) fun q => .inr ⟨q, PySem.W.cellsFrom_some _ _ _ (.inl q)⟩
  refine codeAny_call_function hr.depth (inK _ _ lk) rfl S.co S.gen rfl (PySem.W.codeRec_of inK hcd) (hb _ _ _ _ ?_)
  refine PySem.wpAny_with_toks (n := 1) tok (wpAny_newFunctionEnv_cells S.kind kinds fun env he s1 x tok1 => ?_)
  subst he
  refine ⟨noLim.keeps x.toInCall.keep, codeAny_func ?_⟩
  obtain ⟨t, ht, hq⟩ := body cdv A outer s H vs Q E (hr.deeper _) hsp
  have ht := PSsT.nox ht
  refine wpAny_mono (ht [] s1 (start N vs) H _ tok1 (inv_start S hr.hd e0 many r x) hq) (fun fl s' hs => ?_) fun e s' hs => hs
  have leave : ∀ {σ' : L2.St} {H' : Hp} {v : V} {u : Value}, Inv (cxOf CX0 P w K mg base N qual (defScope st) f cdv A outer s H E) [] σ' H' s' → RelV v u → Q v H' → CE outer P w H s Q u s' :=
    fun {σ' H' v u} J rv q => ⟨v, H', J.os, J.bare, J.base, J.hok, rv, q⟩
  cases fl with
  | ret u => exact let ⟨v, σ', H', J, rv, q⟩ := hs; leave J rv q
  | next => exact let ⟨σ', H', J, q⟩ := hs; leave (v := V.non) (u := Value.none) J rfl q
  | brk => exact let ⟨_, _, _, q⟩ := hs; q.elim
  | cont => exact let ⟨_, _, _, q⟩ := hs; q.elim
end
section
variable {X : Cx} {k : Nat} {f : Addr} {fd : FuncData} {ps : List Str} {sp : Sp} {ds : List Value} {dvs : List V} {x : Str} {p pos : Pos} {e : Expr} {es : List Expr} {t : TA}
theorem pet_call (F : FnOkT X.prog X.w X.K X.mg X.base k f fd ps sp) (hr : Room k X.A) (hg : Gl X x) (hm : X.mg x = some (.ref f)) (hk : PySem.W.keepIn X.K (.ref f) = true) (hb : Binds X.K fd ps ds) (hd : Vals dvs ds)
    (ha : PA X (e :: es) t) (hdb : (x == ("__debug__" : Str)) = false := by decide) (each : starEach (e :: es) X.env = (false, eval e X.env) :: starEach es X.env := by rfl) (plain : (backTo pos (starEach es X.env)).any (·.1) = false := by rfl) :
    PET X (.Call (.Name x p) (e :: es) [] pos) (tCall sp dvs E0 t) := by
  intro pins s σ H Q tok I h
  refine wpAny_Call_Name_kw (ld_glob I hg hm ?_ hdb)
  refine PySem.W.callWith_K (h₀ := X.base) I.ok.mod.kin hk (wpAny_mono (PySem.wpAny_toks (ha.run pos pins s σ H _ I h)) (fun us s1 z => ?_) fun _ _ z => z.2) each plain
  obtain ⟨more, vs, H1, I1, r, q⟩ := z
  refine ⟨I1.kIn, ?_⟩
  have r2 : Vals (vs ++ dvs) (us ++ ds) := r.append hd
  have many : (us ++ ds).length = ps.length := by
    rw [← r2.length]
    exact F.len _ _ _ _ q
  refine wpAny_call (codeAny_mono (F.run X.A X.stack s1 H1 ⟨us, []⟩ (us ++ ds) (vs ++ dvs) Q E0 (Nat.le_trans tok more) hr I1.env0 (hb s1 us I1.kIn many) r2 q) fun out s' hq => ?_)
  cases out with
  | error u => exact hq.elim
  | ok fl =>
    cases fl with
    | ret u => exact I1.after hq
    | next => exact hq.elim
    | brk => exact hq.elim
    | cont => exact hq.elim
end
/-! ### name = [elt for target in iter ..] where iter gives a token out and elt wants one -/
/-- an iterator, a token out -/
def PIP (X : Cx) (tg iter : Expr) (wi : TI) : Prop := ∀ (pins : List (Addr × Obj)) (s : Shared) (σ : L2.St) (H : Hp) (R : L2.It → Hp → Prop), Inv X pins σ H s → wi σ H R →
  wpAny (model X.prog X.w) X.A (eval iter X.env) (fun v s1 => wpAny (model X.prog X.w) X.A (pyIter v) (fun u s2 => 1 ≤ s2.toks ∧ PIE X pins σ tg R u s2) X.xe s1) X.xe s
section
variable {X : Cx} {i : Nat} {y : Str} {py pos spos : Pos} {elt tg iter l : Expr} {ifs : List Expr} {scope : Scope} {own : List (Str × Nat)} {wi : TI} {tl te : TE} {g : TG} {tt : TT}
theorem pip_list (hl : PEP X l tl) : PIP X tg l (iList X.K tl) := by
  intro pins s σ H R I h
  refine thn (hl pins s σ H _ I h) fun v s1 ⟨tok, x, H1, I1, r1, q1⟩ => ?_
  obtain ⟨a, rfl, ⟨xs, hq⟩, q⟩ := q1
  cases r1
  obtain ⟨its, rv, pl, hz⟩ := I1.list hq
  refine wpAny_pyIter_list pl.isList ⟨tok, s1.heap.objs.size, [s1.heap.objs.size], _, _, H1, rfl, I1.kept (t' := s1.toks) fun b o z => Heap.get?_push_of_some _ z, turn_list a _, ⟨_, Heap.get?_push_size _ rfl, rfl, rfl⟩, fun b hb => ?_, q⟩
  rw [List.mem_singleton] at hb
  rw [hb]
  exact I1.fpOk (Nat.le_refl _) (I1.hok.fresh (Nat.le_refl _))
theorem ps_setLcT (hc : X.calm = true) (hN : X.N.Nodup) (hy : X.N[i]? = some y) (hyl : X.env.scope.names.lookup y = some .local)
    (sw : swapsWith (.ListComp elt [⟨tg, iter, ifs, 0⟩] scope pos) (some (.Name y py)) spos.line X.env = pure true) (hi : PIP X tg iter wi) (ok : BlkOk X.N X.env.scope scope own)
    (hg : ∀ (s : Shared) (H : Hp) (C : Addr) (cl : List (Str × Addr)) (fp : List Addr), PG (X.blk s H scope (compEnvC scope cl C X.env) fp) tg g)
    (ht : ∀ (s : Shared) (H : Hp) (C : Addr) (cl : List (Str × Addr)) (fp : List Addr), PTs (X.blk s H scope (compEnvC scope cl C X.env) fp) ifs tt)
    (he : ∀ (s : Shared) (H : Hp) (C : Addr) (cl : List (Str × Addr)) (fp : List Addr), PET (X.blk s H scope (compEnvC scope cl C X.env) fp) elt te) (hs : ∀ x, foldedSetIterable iter X.env x = pure x := by intro _; rfl) :
    PS X (.Assign [.Name y py] (.ListComp elt [⟨tg, iter, ifs, 0⟩] scope pos) spos) (tAsg (tLc wi g tt te (own.map (·.2))) (gName i)) := by
  refine ⟨fun pins s σ H D0 I h => ?_⟩
  rw [exec_Assign_Name_used _ _ _ _ sw]
  refine wpAny_bind (wpAny_standAt (wpAny_bind ?_))
  show wpAny _ X.A (do let _ ← comprehension (.ListComp elt [⟨tg, iter, ifs, 0⟩] scope pos) scope X.env (firstIterPos [⟨tg, iter, ifs, 0⟩] pos) (newList []) false (eval iter X.env) (some (assign (.Name y py) X.env))) _ _ s
  have h : tLc wi g tt te (own.map (·.2)) σ H (fun x H1 => gName i x σ H1 D0.nx) := h
  refine wpAny_bind (thn (Q := fun _ s' => SP X pins D0 .next s') ?_ fun _ s' hq => wpAny_pure (wpAny_pure hq))
  have caught : ∀ z ∈ scope.names, z.2 = .free → ∃ c, X.env.cells.lookup z.1 = some c := fun z hz q => (ok.free z hz q).elim (fun k => I.ok.has _ (.inl k)) fun k => I.ok.has _ (.inr k)
  refine wpAny_comprehension_free (use := some (assign (.Name y py) X.env)) rfl hs (closure_ok caught) ok.kind (fun z hz q => by rw [ok.uniq z hz, q]) (thn (hi pins s σ H _ I h) fun xv s1 hx => thn hx fun itv s2 hit => ?_)
  obtain ⟨tok2, it, fp, tn, J, H2, rfl, I2, T, st2, f2, q⟩ := hit
  refine wpAny_newObj_type (newEnv_comp ?_) (Nat.zero_le _)
  obtain ⟨D, hD⟩ : ∃ D, s2.heap.objs.size = D := ⟨_, rfl⟩
  rw [hD]
  have freeD : H2 D = none := I2.hok.fresh (Nat.le_of_eq hD)
  obtain ⟨Wl, ⟨m0, w0⟩, turn⟩ := q D freeD
  obtain ⟨s3, hs3⟩ : ∃ s3 : Shared, ({ s2 with heap := s2.heap.push { cls := .type "list", data := .seq ([] : List Value).toArray } } : Shared) = s3 := ⟨_, rfl⟩
  have tok3 : 1 ≤ s3.toks := by rw [← hs3]; exact tok2
  have heap3 : s3.heap = s2.heap.push { cls := .type "list", data := .seq ([] : List Value).toArray } := by rw [← hs3]
  have I3 : Inv X pins σ (upd H2 D (.lst [])) s3 := by
    rw [← hs3]
    exact I2.laid (t' := s2.toks) (fun b o z => Heap.get?_push_of_some _ z) (Nat.le_of_eq hD) ⟨Nat.zero_le _, [], 0, .nil, by rw [← hD]; exact Heap.get?_push_size _ rfl⟩
  have below : ∀ b ∈ fp, b < s2.heap.objs.size := fun b hb => let ⟨_, z, _⟩ := T.obj _ _ st2 b hb; Heap.lt_size z
  obtain ⟨H3, hH3⟩ : ∃ H3, upd H2 D (.lst []) = H3 := ⟨_, rfl⟩
  rw [hH3] at I3 w0
  have f3 : ∀ b ∈ fp, FpOk X pins H3 b ∧ b < s3.heap.objs.size := fun b hb => by
    have lt := below b hb
    refine ⟨⟨?_, (f2 b hb).2⟩, ?_⟩
    · rw [← hH3, upd_ne (fun z => Nat.lt_irrefl _ (by rw [z, ← hD] at lt; exact lt))]
      exact (f2 b hb).1
    · rw [heap3, Heap.size_push]
      exact Nat.lt_succ_of_lt lt
  have st3 : tn 0 s3.heap := T.keep _ _ _ st2 fun b _ o z => by
    rw [heap3]
    exact Heap.get?_push_of_some _ z
  have I4 := block_start I3 ok hN f3
  obtain ⟨cl, hcl⟩ : ∃ cl, cellsFrom (s3.heap.objs.size + 1) scope.names (cloFrom X.env.cells scope.names []) = cl := ⟨_, rfl⟩
  obtain ⟨C, hCs⟩ : ∃ C, s3.heap.objs.size = C := ⟨_, rfl⟩
  rw [hs3]
  show codeAny _ _ (.compStart (.ListComp elt [⟨tg, iter, ifs, 0⟩] scope pos) 0 (.ref it) (.ref D) (compEnvC scope (cellsFrom (s3.heap.objs.size + 1) scope.names (cloFrom X.env.cells scope.names [])) s3.heap.objs.size X.env))
    (compPost (model X.prog X.w) X.A X.xe (some (assign (.Name y py) X.env)) (fun _ s' => SP X pins D0 .next s') (.ref D) s3.heap.objs.size) { s3 with heap := pushCells (s3.heap.push { cls := .type "dict", data := .dict #[] }) scope.names }
  rw [hcl] at I4 ⊢
  have pg := hg s3 H3 C cl fp
  have pt := ht s3 H3 C cl fp
  have pe := he s3 H3 C cl fp
  rw [hCs] at I4 ⊢
  obtain ⟨ce, hce⟩ : ∃ ce, compEnvC scope cl C X.env = ce := ⟨_, rfl⟩
  have ceL : ce.locals = C := by rw [← hce]; rfl
  rw [hce] at I4 pg pt pe ⊢
  obtain ⟨s4, hs4⟩ : ∃ s4 : Shared, ({ s3 with heap := pushCells (s3.heap.push { cls := .type "dict", data := .dict #[] }) scope.names } : Shared) = s4 := ⟨_, rfl⟩
  have tok4 : 1 ≤ s4.toks := by rw [← hs4]; exact tok3
  have st4 : tn 0 s4.heap := T.keep _ _ _ st3 fun b _ o z => by
    rw [← hs4]
    exact pushCells_keeps _ _ _ _ (Heap.get?_push_of_some _ z)
  rw [hs4] at I4 ⊢
  have freeFp : ∀ b ∈ fp, H3 b = none := fun b hb => (f3 b hb).1.1
  have fpIn : ∀ {σ' : L2.St} {H' : Hp} {s' : Shared}, Inv (X.blk s3 H3 scope ce fp) [] σ' H' s' → (∀ b ∈ fp, H' b = none) → ∀ b ∈ fp, FpOk (X.blk s3 H3 scope ce fp) [] H' b := fun {σ' H' s'} J' n b hb =>
    ⟨n b hb, (J'.ok.exf b hb).1, J'.ok.exfs b hb, .inl hb, fun x c z => (J'.ok.exf b hb).2 x c z, fun p hp => by cases hp⟩
  have loop : codeAny (model X.prog X.w) X.A (.compLoop (.ListComp elt [⟨tg, iter, ifs, 0⟩] scope pos) 0 (.ref it) (.ref D) ce) (compPost (model X.prog X.w) X.A X.xe (some (assign (.Name y py) X.env)) (fun _ s' => SP X pins D0 .next s') (.ref D) C) s4 := by
    refine compLoop_any (fun n s' => 1 ≤ s'.toks ∧ ∃ i H', Inv (X.blk s3 H3 scope ce fp) [] (wipe σ (own.map (·.2))) H' s' ∧ tn i s'.heap ∧ (∀ b ∈ fp, H' b = none) ∧ Wl i n H') ?_ m0 ⟨tok4, 0, H3, I4, st4, freeFp, w0⟩
    rintro n s5 ⟨tok5, i, H5, I5, st5, n5, w5⟩
    rcases turn i n H5 w5 with ⟨stop, qq⟩ | ⟨go, Nx, hNx, step⟩
    · refine thnF (T.done (X.blk s3 H3 scope ce fp) rfl rfl rfl hc i [] s5 _ H5 (fun _ _ => False) I5 (fpIn I5 n5) st5 stop) fun r s6 ⟨hr, I6⟩ => ?_
      subst hr
      have I7 : Inv X pins σ H5 s6 := I3.call' (ch := fp) I6.os I6.base I6.hok I6.bare fun b hb => ⟨(f3 b hb).1.2.2.2.1, (f3 b hb).1.2.1, (f3 b hb).1.2.2.2.2.1, (f3 b hb).1.2.2.2.2.2⟩
      have nC : H5 C = none := by
        rw [← ceL]
        exact I6.free
      obtain ⟨m, hm, _⟩ := I6.loc
      have hm : s6.heap.Ns ce.locals m := hm
      rw [ceL] at hm
      obtain ⟨g0, g1, g2, g3, g4, g5⟩ := I3.fpOk (H' := H5) (Nat.le_of_eq hCs) nC
      show wpAny _ _ (assign (.Name y py) X.env (.ref D)) _ _ s6
      refine wpAny_assign_Name (store_ok2 (v := V.ref D) I7 hN hy (.inl hyl) rfl (fun s8 I8 ⟨b, sb, hb⟩ => ?_) (.inr hyl))
      have other : C ≠ b := hb.elim (fun z => by rw [z]; exact g1) fun z w => g4 y b z w.symm
      exact ⟨m, hm.sameBut sb other, fun h9 sb9 => ⟨_, H5, I8.turned (t' := s8.toks) (fun b o nb z => (sb9.2 b nb).trans z) g0 g1 g3 g4 g5, qq⟩⟩
    · refine wpAny_with_toks (n := 1) tok5 (thnF (T.item (X.blk s3 H3 scope ce fp) rfl rfl rfl hc i [] s5 _ H5 (fun _ _ => False) I5 (fpIn I5 n5) st5 go) fun r s6 ⟨u, hr, h6⟩ tok6 => ?_)
      subst hr
      refine wpAny_with_toks (n := 1) tok6 (thnF h6 fun _ s7 ⟨x, H7, I7, r7, y7, st7, n7⟩ tok7 => ?_)
      refine wpAny_with_toks (n := 1) tok7 (thnF (pg.run _ s7 _ H7 x u _ (I7.pinned (fpIn I7 n7) (T.obj _ _ st7)) r7 (step x H7 y7)) fun _ s8 ⟨σ8, H8, I8, hw8, q8⟩ tok8 => ?_)
      refine wpAny_with_toks (n := 1) tok8 (thnF (pt.run _ s8 σ8 H8 _ I8 q8) fun b s9 ⟨H9, I9, q9⟩ tok9 => ?_)
      have done : ∀ {s' : Shared} {H' : Hp}, 1 ≤ s'.toks → Inv (X.blk s3 H3 scope ce fp) ([] ++ pinsAt fp s7.heap) σ8 H' s' → Nx H' → ∃ m, m < n ∧ 1 ≤ s'.toks ∧ ∃ i H', Inv (X.blk s3 H3 scope ce fp) [] (wipe σ (own.map (·.2))) H' s' ∧ tn i s'.heap ∧ (∀ b ∈ fp, H' b = none) ∧ Wl i m H' := fun {s' H'} tk J' nx => by
        obtain ⟨m', lt, w'⟩ := hNx H' nx
        have at' : ∀ b ∈ fp, ∀ o, s7.heap.get? b = some o → s'.heap.get? b = some o ∧ H' b = none := fun b hb o z =>
          let y := J'.pin (b, o) (List.mem_append_right _ (List.mem_append_right _ (mem_pinsAt hb z)))
          ⟨y.1, y.2.1⟩
        refine ⟨m', lt, tk, i + 1, H', (J'.unpinned (pins := [])).weak (by rw [← hw8, wipe_length]) (fun j v z => ?_), T.keep _ _ _ st7 fun b hb o z => (at' b hb o z).1, fun b hb => ?_, w'⟩
        · rw [← hw8] at z
          exact (wipe_some z).1
        · obtain ⟨o, z, _⟩ := T.obj _ _ st7 b hb
          exact (at' b hb o z).2
      cases b with
      | false =>
        simp only [Bool.false_eq_true, if_false] at q9 ⊢
        exact done tok9 I9 q9
      | true =>
        simp only [if_true] at q9 ⊢
        refine wpAny_with_toks (n := 1) tok9 (thnF (pe _ s9 σ8 H9 _ tok9 I9 q9) fun z s10 ⟨yv, H10, I10, r10, acc, hD10, hz10, nx⟩ tok10 => ?_)
        exact wpAny_with_toks (n := 1) tok10 (app_ok (X := X.blk s3 H3 scope ce fp) I10 hD10 hz10 r10 fun s11 I11 tok11 => done tok11 I11 nx)
  exact codeAny_compStart_list loop (T.self X.A 0 _ _ _ st4 loop)
end
end LW
set_option Elab.async false
set_option linter.all false
set_option maxRecDepth 100000
set_option maxHeartbeats 4000000
/-! BlkStr: rules within comprehensions (their K is the def's), a sign times a number. -/
namespace LW
open PySem PySem.Spec PyProof.Rows L2 TL
section
variable {X : Cx} {l o e : Expr} {tl to te : TE} {tg : Expr} {pos apos : Pos}
theorem pi_listB {K : PySem.W.Frag} (h : X.K = K) (hl : PE X l tl) : PI X tg l (iList K tl) := by
  subst h
  exact pi_list hl
theorem pi_tupB {K : PySem.W.Frag} (h : X.K = K) (hl : PE X l tl) : PI X tg l (iTup K tl) := by
  subst h
  exact pi_tup hl
theorem pe_joinB {K : PySem.W.Frag} (h : X.K = K) (ho : PE X o to) (he : PE X e te) (hs : starEach [e] X.env = [(false, eval e X.env)] := by rfl) (hbase : attributeBase o "join" X.env (eval o X.env) = eval o X.env := by rfl) (hline : (apos.endLine == pos.line) = true := by rfl) :
    PE X (.Call (.Attribute o "join" apos) [e] [] pos) (tM1 (fun x xs H Q => ∃ a p, ∃ ys : List Str, x = .str a ∧ xs = [.ref p] ∧ (SqL K H p (ys.map V.str) ∨ SqT K H p (ys.map V.str)) ∧
      (ys.map (·.length)).sum + ys.length * a.length ≤ 16777216 ∧ Q (.str (Txt.join a ys)) H) to te) := by
  subst h
  exact pe_join ho he hs hbase hline
/-- a sign, many times -/
def rRepS : R2 := fun x y H Q => ∃ (a : Str) (c : Nat) (n : Int), x = .str a ∧ y = .int n ∧ TL.tl a = [c] ∧ 1 < n ∧ n ≤ 1000000 ∧ Q (.str (str (List.replicate n.toNat c))) H
theorem mul_sign {a : Str} {c : Nat} {n : Int} (h : TL.tl a = [c]) (h1 : 1 < n) : Txt.mul a n = str (List.replicate n.toNat c) := by
  have hl : a.length = 1 := by rw [len_tl, h]; rfl
  unfold Txt.mul
  rw [if_neg (by omega), if_neg (by rw [hl]; simp; omega)]
  have key : ∀ (m : Nat) (z : Array Nat), (List.replicate m a.cps).foldl (· ++ ·) z = z ++ (List.replicate m c).toArray := fun m => by
    induction m with
    | zero => intro z; simp
    | succ m ih =>
      intro z
      rw [List.replicate_succ, List.foldl_cons, ih, List.replicate_succ]
      have : a.cps = #[c] := by
        have e : a.cps.toList = [c] := h
        apply Array.toList_inj.mp
        rw [e]
      rw [this]
      apply Array.toList_inj.mp
      simp
  rw [key]
  simp [str]
theorem op_rep_str : OpR X (binaryOp .Mult) rRepS := by
  intro pins s σ H x y v u Q I rx ry h
  obtain ⟨a, c, n, rfl, rfl, ha, h1, h2, q⟩ := h
  obtain ⟨t, rfl⟩ := rx
  obtain ⟨t', rfl⟩ := ry
  have hl : a.length = 1 := by rw [len_tl, ha]; rfl
  rw [← mul_sign ha h1] at q
  refine PySem.SB.mul ⟨?_, fun _ _ z => ?_, fun _ _ => ?_⟩ fun t' k => ⟨.str _, H, I.tok k, ⟨t', rfl⟩, q⟩
  · rw [decide_eq_false (by omega), decide_eq_false (by omega)]
    rfl
  · rw [hl] at z
    have : (1 : Int) ≤ (2 ^ 63 - 1) / n := by
      rw [Int.le_ediv_iff_mul_le (by omega)]
      omega
    omega
  · rw [hl, Nat.one_mul]
    unfold Builtin.Str.tooLong
    exact decide_eq_false (by
      have := sz_small (n := n.toNat) (by omega)
      omega)
end
end LW
set_option Elab.async false
set_option linter.all false
set_option maxRecDepth 100000
/-! K66Plain: papers as text: words, what is written, what two readers read: no program in sight. -/
namespace PT
open PySem PySem.Spec PyProof.Rows L2 TL LW
/-! ### words of a line -/
/-- ( ) and blank part words -/
def sp (c : Nat) : Bool := c == 32 || c == 40 || c == 41
def one (w : List Nat) : List (List Nat) := if w = [] then [] else [w]
/-- the words behind a begun one -/
def tk : List Nat → List Nat → List (List Nat)
  | w, [] => one w
  | w, c :: r => if sp c = true then one w ++ (if c = 32 then [] else [[c]]) ++ tk [] r else tk (w ++ [c]) r
/-- words written behind a word -/
def lo : List Nat → List (List Nat) → List Nat
  | _, [] => []
  | p, t :: r => (if t ≠ [41] ∧ p ≠ [40] then [32] else []) ++ t ++ lo t r
def lineOf : List (List Nat) → List Nat
  | [] => []
  | t :: r => t ++ lo t r
/-- a word's signs part nothing -/
def Word (t : List Nat) : Prop := t ≠ [] ∧ ∀ c ∈ t, sp c = false
def Good (t : List Nat) : Prop := t = [40] ∨ t = [41] ∨ Word t
theorem tk_word {t : List Nat} (h : ∀ c ∈ t, sp c = false) : ∀ (w r : List Nat), tk w (t ++ r) = tk (w ++ t) r := by
  induction t with
  | nil => intro w r; rw [List.nil_append, List.append_nil]
  | cons c t ih =>
    intro w r
    have hc := h c List.mem_cons_self
    rw [List.cons_append]
    show (if sp c = true then _ else tk (w ++ [c]) (t ++ r)) = _
    rw [hc, if_neg (by decide), ih (fun x hx => h x (List.mem_cons_of_mem _ hx)), List.append_assoc]
    rfl
theorem tk_good {t : List Nat} (g : Good t) (r : List Nat) (hr : Word t → r = [] ∨ ∃ c r', r = c :: r' ∧ sp c = true) : tk [] (t ++ r) = t :: tk [] r := by
  rcases g with rfl | rfl | g
  · rfl
  · rfl
  · have h := tk_word g.2 [] r
    rw [h, List.nil_append]
    rcases hr g with rfl | ⟨c, r', rfl, hc⟩
    · show one t = t :: one []
      unfold one
      rw [if_neg g.1]
      rfl
    · show (if sp c = true then one t ++ _ ++ _ else _) = t :: (if sp c = true then one [] ++ _ ++ _ else _)
      rw [if_pos hc, if_pos hc]
      unfold one
      rw [if_neg g.1]
      rfl
/-- what follows a word begins with a sign that parts -/
theorem lo_head {p : List Nat} (hp : Word p) : ∀ (r : List (List Nat)), lo p r = [] ∨ ∃ c r', lo p r = c :: r' ∧ sp c = true
  | [] => .inl rfl
  | t :: r => by
    refine .inr ?_
    have np : p ≠ [40] := fun z => by
      have := hp.2 40 (by rw [z]; exact List.mem_cons_self)
      revert this
      decide
    by_cases ht : t = [41]
    · subst ht
      exact ⟨41, _, rfl, by decide⟩
    · refine ⟨32, t ++ lo t r, ?_, by decide⟩
      show (if t ≠ [41] ∧ p ≠ [40] then [32] else []) ++ t ++ lo t r = _
      rw [if_pos ⟨ht, np⟩]
      rfl
theorem tk_lo : ∀ (ts : List (List Nat)) (p : List Nat), (∀ t ∈ ts, Good t) → tk [] (lo p ts) = ts
  | [], _, _ => rfl
  | t :: r, p, h => by
    have g := h t List.mem_cons_self
    have ih := tk_lo r t fun x hx => h x (List.mem_cons_of_mem _ hx)
    have e : tk [] (t ++ lo t r) = t :: r := by
      rw [tk_good g (lo t r) fun w => lo_head w r, ih]
    show tk [] ((if t ≠ [41] ∧ p ≠ [40] then [32] else []) ++ t ++ lo t r) = _
    by_cases c : t ≠ [41] ∧ p ≠ [40]
    · rw [if_pos c]
      show one [] ++ [] ++ tk [] (t ++ lo t r) = _
      rw [e]
      rfl
    · rw [if_neg c]
      exact e
/-- the words of a written line are its words -/
theorem tk_line {ts : List (List Nat)} (h : ∀ t ∈ ts, Good t) : tk [] (lineOf ts) = ts := by
  cases ts with
  | nil => rfl
  | cons t r =>
    show tk [] (t ++ lo t r) = _
    rw [tk_good (h t List.mem_cons_self) (lo t r) fun w => lo_head w r, tk_lo r t fun x hx => h x (List.mem_cons_of_mem _ hx)]
/-- all words of a line are good -/
theorem tk_all : ∀ (l w : List Nat), (∀ c ∈ w, sp c = false) → ∀ t ∈ tk w l, Good t
  | [], w, hw, t, ht => by
    unfold tk one at ht
    split at ht
    · cases ht
    · rename_i n
      rw [List.mem_singleton] at ht
      rw [ht]
      exact .inr (.inr ⟨n, hw⟩)
  | c :: r, w, hw, t, ht => by
    unfold tk at ht
    split at ht
    · rename_i hc
      rcases List.mem_append.mp ht with ht | ht
      · rcases List.mem_append.mp ht with ht | ht
        · unfold one at ht
          split at ht
          · cases ht
          · rename_i n
            rw [List.mem_singleton] at ht
            rw [ht]
            exact .inr (.inr ⟨n, hw⟩)
        · split at ht
          · cases ht
          · rename_i n
            rw [List.mem_singleton] at ht
            unfold sp at hc
            simp only [Bool.or_eq_true, beq_iff_eq] at hc
            rcases hc with (hc | hc) | hc
            · exact absurd hc n
            · exact .inl (by rw [ht, hc])
            · exact .inr (.inl (by rw [ht, hc]))
      · exact tk_all r [] (by simp) t ht
    · rename_i hc
      exact tk_all r (w ++ [c]) (fun x hx => by
        rcases List.mem_append.mp hx with hx | hx
        · exact hw x hx
        · rw [List.mem_singleton] at hx
          rw [hx]
          simpa using hc) t ht
/-! ### the law's way to the words: ( and ) spread, parted by blanks -/
def spread (c : Nat) : List Nat := if c = 40 then [32, 40, 32] else if c = 41 then [32, 41, 32] else [c]
def wide (l : List Nat) : List Nat := l.flatMap spread
theorem spl32_hit (w r : List Nat) : spl [32] 0 w (32 :: r) = w :: spl [32] 0 [] r := spl_hit (S := [32]) rfl
theorem spl32_miss {c : Nat} (h : c ≠ 32) (w r : List Nat) : spl [32] 0 w (c :: r) = spl [32] 0 (w ++ [c]) r := spl_miss (pre_of_head [] r h)
theorem wide_tk : ∀ (l w : List Nat), (spl [32] 0 w (wide l)).filter (fun t => decide (t ≠ [])) = tk w l
  | [], w => by
    show (spl [32] 0 w []).filter _ = one w
    rw [spl_nil]
    unfold one
    by_cases h : w = []
    · rw [if_pos h, List.filter_cons, if_neg (by simp [h])]
      rfl
    · rw [if_neg h, List.filter_cons, if_pos (by simp [h])]
      rfl
  | c :: r, w => by
    have step : ∀ (l : List (List Nat)), (w :: l).filter (fun t => decide (t ≠ [])) = one w ++ l.filter (fun t => decide (t ≠ [])) := fun l => by
      unfold one
      by_cases h : w = []
      · rw [if_pos h, List.filter_cons, if_neg (by simp [h])]
        rfl
      · rw [if_neg h, List.filter_cons, if_pos (by simp [h])]
        rfl
    have e : wide (c :: r) = spread c ++ wide r := by
      unfold wide
      rw [List.flatMap_cons]
    rw [e]
    unfold spread tk sp
    by_cases h1 : c = 40
    · subst h1
      show (spl [32] 0 w (32 :: 40 :: 32 :: wide r)).filter _ = one w ++ [[40]] ++ tk [] r
      rw [spl32_hit, spl32_miss (by decide), List.nil_append, spl32_hit, step, List.filter_cons, if_pos (by decide), wide_tk r []]
      simp
    · by_cases h2 : c = 41
      · subst h2
        show (spl [32] 0 w (32 :: 41 :: 32 :: wide r)).filter _ = one w ++ [[41]] ++ tk [] r
        rw [spl32_hit, spl32_miss (by decide), List.nil_append, spl32_hit, step, List.filter_cons, if_pos (by decide), wide_tk r []]
        simp
      · by_cases h3 : c = 32
        · subst h3
          show (spl [32] 0 w (32 :: wide r)).filter _ = one w ++ [] ++ tk [] r
          rw [spl32_hit, step, wide_tk r [], List.append_nil]
        · rw [if_neg h1, if_neg h2, if_neg (by simp [h1, h2, h3])]
          show (spl [32] 0 w (c :: wide r)).filter _ = tk (w ++ [c]) r
          rw [spl32_miss h3, wide_tk r (w ++ [c])]
/-! ### replace, by signs -/
theorem replace_spl (x y z : Str) (hy : tl y ≠ []) : tl (Txt.replace x y z) = joinL (tl z) (spl (tl y) 0 [] (tl x)) := by
  obtain ⟨f, g, hn⟩ := PySem.StrLaws.occ_tight x y (len1 hy)
  have key := parts_spl hy _ 0 f (Nat.zero_le _) g hn
  rw [List.drop_zero] at key
  have yl : (y.length == 0) = false := by
    have := len1 hy
    simp
    omega
  unfold Txt.replace
  by_cases h2 : (Builtin.Str.occurrences x y 0 x.length (x.length + 1)).isEmpty = true
  · rw [if_pos (by rw [h2]; rfl)]
    rw [List.isEmpty_iff.mp h2] at key
    rw [← key]
    show tl x = joinL (tl z) [tl (Builtin.Str.strSub x 0 x.length)]
    rw [PySem.StrLaws.sub_whole]
    rfl
  · have h2' : (Builtin.Str.occurrences x y 0 x.length (x.length + 1)).isEmpty = false := by simpa using h2
    rw [if_neg (by rw [h2', yl]; simp), PySem.StrLaws.glued_eq_join, tl_join, PySem.StrLaws.partsBetween_eq, key]
theorem spl1_ne {s : Nat} : ∀ (l w : List Nat), spl [s] 0 w l ≠ []
  | [], w => by rw [spl_nil]; simp
  | c :: r, w => by
    by_cases h : c = s
    · subst h
      rw [spl_hit (S := [c]) (by unfold pre; simp)]
      simp
    · rw [spl_miss (pre_of_head [] r h)]
      exact spl1_ne r _
theorem join_spl1 {s : Nat} {S : List Nat} : ∀ (l w : List Nat), joinL S (spl [s] 0 w l) = w ++ l.flatMap fun c => if c = s then S else [c]
  | [], w => by
    rw [spl_nil, List.flatMap_nil, List.append_nil]
    rfl
  | c :: r, w => by
    rw [List.flatMap_cons]
    by_cases h : c = s
    · subst h
      rw [if_pos rfl, spl_hit (S := [c]) (by unfold pre; simp)]
      have ih := join_spl1 (s := c) (S := S) r []
      show joinL S (w :: spl [c] 0 [] r) = _
      cases e : spl [c] 0 [] r with
      | nil => exact absurd e (spl1_ne r [])
      | cons p q =>
        rw [e] at ih
        show w ++ (S ++ joinL S (p :: q)) = _
        rw [ih, List.nil_append]
    · rw [if_neg h, spl_miss (pre_of_head [] r h), join_spl1 r (w ++ [c]), List.append_assoc]
/-- both replacements: every ( and ) spread -/
theorem wide_of (x : Str) : tl (Txt.replace (Txt.replace x (Str.ofString "(") (Str.ofString " ( ")) (Str.ofString ")") (Str.ofString " ) ")) = wide (tl x) := by
  rw [replace_spl _ _ _ (by decide +kernel), replace_spl _ _ _ (by decide +kernel)]
  rw [show tl (Str.ofString "(") = [40] by decide +kernel, show tl (Str.ofString ")") = [41] by decide +kernel, show tl (Str.ofString " ( ") = [32, 40, 32] by decide +kernel, show tl (Str.ofString " ) ") = [32, 41, 32] by decide +kernel]
  rw [join_spl1, join_spl1, List.nil_append, List.nil_append]
  unfold wide
  rw [List.flatMap_assoc]
  congr 1
  funext c
  unfold spread
  by_cases h : c = 40
  · subst h
    rfl
  · rw [if_neg h, if_neg h, List.flatMap_cons, List.flatMap_nil, List.append_nil]
/-! ### words read, members written -/
def small (c : Nat) : Bool := decide (97 ≤ c) && decide (c ≤ 122)
def fig (c : Nat) : Bool := decide (48 ≤ c) && decide (c ≤ 57)
def figs : List Nat → List Nat
  | [] => []
  | c :: r => if c = 45 then r else c :: r
def isNum (t : List Nat) : Bool := decide (figs t ≠ []) && decide ((figs t).length ≤ 1000) && (figs t).all fig && (decide ((figs t).head? ≠ some 48) || decide (t = [48]))
def isWord (t : List Nat) : Bool := (match t with | c :: _ => small c | [] => false) && t.all fun c => small c || fig c
def numV : List Nat → Int
  | [] => 0
  | c :: r => if c = 45 then -((NumText.digitsVal r : Nat) : Int) else ((NumText.digitsVal (c :: r) : Nat) : Int)
def pw (t : List Nat) : Option PyData := if t = [45] then some .none else if isNum t = true then some (.int (numV t)) else if isWord t = true then some (.str (str t)) else none
mutual
def wr : PyData → List Nat
  | .none => [45]
  | .int i => tl (Str.ofString (toString i))
  | .str x => tl x
  | .tuple ds => 40 :: (joinL [32] (wrAll ds) ++ [41])
  | _ => []
def wrAll : List PyData → List (List Nat)
  | [] => []
  | d :: ds => wr d :: wrAll ds
end
mutual
/-- the words of a member -/
def tm : PyData → List (List Nat)
  | .tuple ds => [40] :: (tmAll ds ++ [[41]])
  | .none => [wr .none]
  | .int i => [wr (.int i)]
  | .str x => [wr (.str x)]
  | .bool _ => [[]]
  | .list _ => [[]]
  | .dict _ => [[]]
def tmAll : List PyData → List (List Nat)
  | [] => []
  | d :: ds => tm d ++ tmAll ds
end
mutual
/-- a member whose atoms are words -/
def Vm : PyData → Prop
  | .tuple ds => VmAll ds
  | .none => True
  | .int i => Word (wr (.int i))
  | .str x => Word (tl x)
  | _ => False
def VmAll : List PyData → Prop
  | [] => True
  | d :: ds => Vm d ∧ VmAll ds
end
theorem tmAll_app : ∀ (a b : List PyData), tmAll (a ++ b) = tmAll a ++ tmAll b
  | [], b => rfl
  | d :: a, b => by
    show tm d ++ tmAll (a ++ b) = tm d ++ tmAll a ++ tmAll b
    rw [tmAll_app a b, List.append_assoc]
theorem vmAll_app : ∀ {a b : List PyData}, VmAll a → VmAll b → VmAll (a ++ b)
  | [], _, _, h => h
  | _ :: _, _, h1, h2 => by
    unfold VmAll at h1
    show VmAll (_ :: (_ ++ _))
    unfold VmAll
    exact ⟨h1.1, vmAll_app h1.2 h2⟩
theorem lo_p {p q : List Nat} (hp : p ≠ [40]) (hq : q ≠ [40]) : ∀ r, lo p r = lo q r
  | [] => rfl
  | t :: r => by
    show (if t ≠ [41] ∧ p ≠ [40] then [32] else []) ++ t ++ lo t r = (if t ≠ [41] ∧ q ≠ [40] then [32] else []) ++ t ++ lo t r
    by_cases h : t = [41]
    · rw [if_neg (by simp [h]), if_neg (by simp [h])]
    · rw [if_pos ⟨h, hp⟩, if_pos ⟨h, hq⟩]
theorem word_ne {t : List Nat} (h : Word t) : t ≠ [40] ∧ t ≠ [41] := by
  constructor <;> intro e <;> subst e
  · exact absurd (h.2 40 (by simp)) (by decide)
  · exact absurd (h.2 41 (by simp)) (by decide)
def gap (p : List Nat) : List Nat := if p ≠ [40] then [32] else []
theorem lo_word {p t : List Nat} (h : Word t) (r : List (List Nat)) : lo p (t :: r) = gap p ++ t ++ lo [41] r := by
  show (if t ≠ [41] ∧ p ≠ [40] then [32] else []) ++ t ++ lo t r = _
  rw [lo_p (word_ne h).1 (by decide : ([41] : List Nat) ≠ [40]) r]
  unfold gap
  by_cases hp : p = [40]
  · rw [if_neg (by simp [hp]), if_neg (by simp [hp])]
  · rw [if_pos ⟨(word_ne h).2, hp⟩, if_pos hp]
def tailW (ws : List (List Nat)) : List Nat := ws.flatMap fun w => 32 :: w
theorem joinL_tail : ∀ (w : List Nat) (ws : List (List Nat)), joinL [32] (w :: ws) = w ++ tailW ws
  | w, [] => by
    show w = w ++ []
    rw [List.append_nil]
  | w, v :: ws => by
    show w ++ ([32] ++ joinL [32] (v :: ws)) = _
    rw [joinL_tail v ws]
    unfold tailW
    rw [List.flatMap_cons]
    rfl
mutual
theorem lo_tm : ∀ (d : PyData) (p : List Nat) (r : List (List Nat)), Vm d → lo p (tm d ++ r) = gap p ++ wr d ++ lo [41] r
  | .tuple ds, p, r, h => by
    unfold Vm at h
    have e : tm (.tuple ds) ++ r = [40] :: (tmAll ds ++ ([41] :: r)) := by
      unfold tm
      simp
    rw [e]
    show (if ([40] : List Nat) ≠ [41] ∧ p ≠ [40] then [32] else []) ++ [40] ++ lo [40] (tmAll ds ++ ([41] :: r)) = _
    have g : (if ([40] : List Nat) ≠ [41] ∧ p ≠ [40] then [32] else []) = gap p := by
      unfold gap
      by_cases hp : p = [40]
      · rw [if_neg (by simp [hp]), if_neg (by simp [hp])]
      · rw [if_pos ⟨by decide, hp⟩, if_pos hp]
    rw [g]
    have inner : lo [40] (tmAll ds ++ ([41] :: r)) = joinL [32] (wrAll ds) ++ [41] ++ lo [41] r := by
      cases ds with
      | nil => rfl
      | cons d ds =>
        unfold VmAll at h
        show lo [40] (tm d ++ tmAll ds ++ ([41] :: r)) = _
        rw [List.append_assoc, lo_tm d [40] _ h.1, lo_tmAll ds _ h.2]
        show gap [40] ++ wr d ++ (tailW (wrAll ds) ++ ([] ++ [41] ++ lo [41] r)) = joinL [32] (wr d :: wrAll ds) ++ [41] ++ lo [41] r
        rw [joinL_tail]
        simp [gap]
    rw [inner]
    unfold wr
    simp
  | .none, p, r, h => by
    show lo p (wr .none :: r) = _
    exact lo_word (t := [45]) ⟨by simp, by decide⟩ r
  | .int i, p, r, h => by
    unfold Vm at h
    show lo p (wr (.int i) :: r) = _
    exact lo_word h r
  | .str x, p, r, h => by
    unfold Vm at h
    show lo p (wr (.str x) :: r) = _
    exact lo_word (t := wr (.str x)) (by unfold wr; exact h) r
  | .bool _, _, _, h => by unfold Vm at h; exact h.elim
  | .list _, _, _, h => by unfold Vm at h; exact h.elim
  | .dict _, _, _, h => by unfold Vm at h; exact h.elim
theorem lo_tmAll : ∀ (ds : List PyData) (r : List (List Nat)), VmAll ds → lo [41] (tmAll ds ++ r) = tailW (wrAll ds) ++ lo [41] r
  | [], _, _ => rfl
  | d :: ds, r, h => by
    unfold VmAll at h
    show lo [41] (tm d ++ tmAll ds ++ r) = _
    rw [List.append_assoc, lo_tm d [41] _ h.1, lo_tmAll ds r h.2]
    show gap [41] ++ wr d ++ (tailW (wrAll ds) ++ lo [41] r) = tailW (wr d :: wrAll ds) ++ lo [41] r
    unfold tailW
    rw [List.flatMap_cons]
    simp [gap]
end
theorem tm_ne : ∀ d, ∃ t r, tm d = t :: r
  | .tuple ds => ⟨[40], _, by unfold tm; rfl⟩
  | .none => ⟨_, [], by unfold tm; rfl⟩
  | .int i => ⟨_, [], by unfold tm; rfl⟩
  | .str x => ⟨_, [], by unfold tm; rfl⟩
  | .bool _ => ⟨_, [], by unfold tm; rfl⟩
  | .list _ => ⟨_, [], by unfold tm; rfl⟩
  | .dict _ => ⟨_, [], by unfold tm; rfl⟩
/-- the words of a row, written -/
theorem line_row {row : List PyData} (h : VmAll row) : lineOf (tmAll row) = joinL [32] (wrAll row) := by
  have key : ∀ ts : List (List Nat), (∀ t r, ts = t :: r → t ≠ [41]) → lo [41] ts = (if ts = [] then [] else [32]) ++ lineOf ts := fun ts ht => by
    cases ts with
    | nil => rfl
    | cons t r =>
      show (if t ≠ [41] ∧ ([41] : List Nat) ≠ [40] then [32] else []) ++ t ++ lo t r = [32] ++ (t ++ lo t r)
      rw [if_pos ⟨ht t r rfl, by decide⟩, List.append_assoc]
  cases row with
  | nil => rfl
  | cons d ds =>
    have hd := h
    unfold VmAll at hd
    have first : ∀ t r, tmAll (d :: ds) = t :: r → t ≠ [41] := fun t r e z => by
      subst z
      have e : tm d ++ tmAll ds = [41] :: r := e
      revert e
      cases d with
      | tuple xs =>
        unfold tm
        intro e
        cases e
      | none =>
        unfold tm
        intro e
        have := (List.cons.inj e).1
        unfold wr at this
        cases this
      | int i =>
        have v := hd.1
        unfold Vm at v
        unfold tm
        intro e
        exact (word_ne v).2 (List.cons.inj e).1
      | str x =>
        have v := hd.1
        unfold Vm at v
        unfold tm
        intro e
        have := (List.cons.inj e).1
        unfold wr at this
        exact (word_ne v).2 this
      | bool _ => have v := hd.1; unfold Vm at v; exact v.elim
      | list _ => have v := hd.1; unfold Vm at v; exact v.elim
      | dict _ => have v := hd.1; unfold Vm at v; exact v.elim
    have k := key (tmAll (d :: ds)) first
    have a := lo_tmAll (d :: ds) [] h
    rw [List.append_nil] at a
    have nonempty : tmAll (d :: ds) ≠ [] := by
      obtain ⟨t, r, e⟩ := tm_ne d
      show tm d ++ tmAll ds ≠ []
      rw [e]
      simp
    rw [if_neg nonempty, a] at k
    have b : tailW (wrAll (d :: ds)) ++ lo [41] [] = [32] ++ joinL [32] (wrAll (d :: ds)) := by
      show tailW (wr d :: wrAll ds) ++ [] = [32] ++ joinL [32] (wr d :: wrAll ds)
      rw [joinL_tail]
      unfold tailW
      rw [List.flatMap_cons]
      simp
    rw [b] at k
    exact (List.append_cancel_left k).symm
/-! ### rows read -/
def ps : List (List PyData) → List (List Nat) → Option (List PyData)
  | st, [] => (match st with | [r] => some r | _ => none)
  | st, t :: ts =>
    if t = [40] then (if st.length = 12 then none else ps ([] :: st) ts)
    else if t = [41] then (match st with | top :: nxt :: rest => ps ((nxt ++ [.tuple top]) :: rest) ts | _ => none)
    else match pw t with
      | none => none
      | some d => (match st with | top :: rest => ps ((top ++ [d]) :: rest) ts | [] => none)
/-- the words that a stack of open rows stands for -/
def flat : List (List PyData) → List (List Nat)
  | [] => []
  | [r] => tmAll r
  | top :: nxt :: rest => flat (nxt :: rest) ++ ([40] :: tmAll top)
def VmSt : List (List PyData) → Prop
  | [] => True
  | r :: rest => VmAll r ∧ VmSt rest
theorem flat_app : ∀ (top ds : List PyData) (rest : List (List PyData)), flat ((top ++ ds) :: rest) = flat (top :: rest) ++ tmAll ds
  | top, ds, [] => tmAll_app top ds
  | top, ds, nxt :: rest => by
    show flat (nxt :: rest) ++ ([40] :: tmAll (top ++ ds)) = flat (nxt :: rest) ++ ([40] :: tmAll top) ++ tmAll ds
    rw [tmAll_app, List.append_assoc]
    rfl
theorem fig_range {c : Nat} (h : fig c = true) : 48 ≤ c ∧ c ≤ 57 := by
  unfold fig at h
  simp only [Bool.and_eq_true, decide_eq_true_eq] at h
  exact h
theorem figs_all {t : List Nat} (h : (figs t).all fig = true) : NumText.AllDigits (figs t) := fun c hc => fig_range (List.all_eq_true.mp h c hc)
/-- canonical figures are those of their number -/
theorem num_canon : ∀ (n : Nat) (cs : List Nat), cs.length = n → NumText.AllDigits cs → cs ≠ [] → (cs.head? ≠ some 48 ∨ cs = [48]) → numL (NumText.digitsVal cs) = cs ∧ (cs ≠ [48] → 0 < NumText.digitsVal cs) := by
  intro n
  induction n with
  | zero =>
    intro cs hl _ hne _
    exact absurd (List.length_eq_zero_iff.mp hl) hne
  | succ n ih =>
    intro cs hl ha hne hc
    obtain ⟨ini, d, rfl⟩ : ∃ ini d, cs = ini ++ [d] := ⟨cs.dropLast, cs.getLast hne, (List.dropLast_concat_getLast hne).symm⟩
    have hd := ha d (List.mem_append_right _ List.mem_cons_self)
    have hv : NumText.digitsVal (ini ++ [d]) = NumText.digitsVal ini * 10 + (d - 48) := by
      unfold NumText.digitsVal
      rw [List.foldl_append]
      rfl
    by_cases h0 : ini = []
    · subst h0
      rw [hv]
      show numL (0 * 10 + (d - 48)) = [d] ∧ _
      rw [Nat.zero_mul, Nat.zero_add, numL_lt (by omega)]
      refine ⟨by rw [show 48 + (d - 48) = d from by omega], fun h => ?_⟩
      show 0 < NumText.digitsVal [] * 10 + (d - 48)
      have : d ≠ 48 := fun z => h (by rw [z]; rfl)
      show 0 < 0 * 10 + (d - 48)
      omega
    · have hl2 : ini.length = n := by
        rw [List.length_append, List.length_singleton] at hl
        omega
      have hh : (ini ++ [d]).head? = ini.head? := by
        cases ini with
        | nil => exact absurd rfl h0
        | cons x y => rfl
      have h48 : ini.head? ≠ some 48 := by
        rcases hc with hc | hc
        · rw [hh] at hc
          exact hc
        · have := congrArg List.length hc
          rw [List.length_append] at this
          cases ini with
          | nil => exact absurd rfl h0
          | cons x y => simp at this
      have hne48 : ini ≠ [48] := fun z => h48 (by rw [z]; rfl)
      obtain ⟨e1, e2⟩ := ih ini hl2 (fun c hc => ha c (List.mem_append_left _ hc)) h0 (.inl h48)
      have pos := e2 hne48
      rw [hv]
      have big : 10 ≤ NumText.digitsVal ini * 10 + (d - 48) := by omega
      refine ⟨?_, fun _ => by omega⟩
      rw [numL_step big, show (NumText.digitsVal ini * 10 + (d - 48)) / 10 = NumText.digitsVal ini from by omega, e1, show 48 + (NumText.digitsVal ini * 10 + (d - 48)) % 10 = d from by omega]
theorem wr_nat (n : Nat) : tl (Str.ofString (toString ((n : Nat) : Int))) = numL n := tl_num n
theorem wr_neg {n : Nat} (h : 0 < n) : tl (Str.ofString (toString (-((n : Nat) : Int)))) = 45 :: numL n := by
  obtain ⟨k, rfl⟩ : ∃ k, n = k + 1 := ⟨n - 1, by omega⟩
  have e : toString (-(((k + 1 : Nat)) : Int)) = "-" ++ toString (((k + 1 : Nat) : Int)) := rfl
  rw [e, tl_ofString, String.toList_append, List.map_append, ← tl_ofString (toString (((k + 1 : Nat) : Int))), tl_num]
  rfl
/-- a read word is written as it stood -/
theorem pw_wr {t : List Nat} {d : PyData} (h : pw t = some d) : wr d = t := by
  unfold pw at h
  split at h
  · rename_i e
    cases h
    rw [e]
    rfl
  · rename_i n45
    split at h
    · rename_i hn
      cases h
      unfold isNum at hn
      simp only [Bool.and_eq_true, Bool.or_eq_true, decide_eq_true_eq] at hn
      obtain ⟨⟨⟨n1, n2⟩, n3⟩, n4⟩ := hn
      have hd := figs_all n3
      cases t with
      | nil => exact absurd rfl n1
      | cons c r =>
        have ef : figs (c :: r) = if c = 45 then r else c :: r := rfl
        have en : numV (c :: r) = if c = 45 then -((NumText.digitsVal r : Nat) : Int) else ((NumText.digitsVal (c :: r) : Nat) : Int) := rfl
        unfold wr
        rw [en]
        rw [ef] at n1 n4 hd
        by_cases hc : c = 45
        · subst hc
          rw [if_pos rfl] at n1 n4 hd
          rw [if_pos rfl]
          have n4' : r.head? ≠ some 48 := n4.elim id fun z => by cases z
          have hr : r ≠ [48] := fun z => n4' (by rw [z]; rfl)
          obtain ⟨e1, e2⟩ := num_canon r.length r rfl hd n1 (.inl n4')
          rw [wr_neg (e2 hr), e1]
        · rw [if_neg hc] at n1 n4 hd
          rw [if_neg hc, wr_nat]
          exact (num_canon (c :: r).length (c :: r) rfl hd n1 n4).1
    · split at h
      · cases h
        unfold wr
        exact tl_str t
      · cases h
/-- a read word is an atom -/
theorem pw_tm {t : List Nat} {d : PyData} (h : pw t = some d) : tm d = [t] := by
  have e := pw_wr h
  unfold pw at h
  split at h
  · cases h
    unfold tm
    rw [e]
  · split at h
    · cases h
      unfold tm
      rw [e]
    · split at h
      · cases h
        unfold tm
        rw [e]
      · cases h
theorem pw_vm {t : List Nat} {d : PyData} (h : pw t = some d) (w : Word t) : Vm d := by
  have e := pw_wr h
  unfold pw at h
  split at h
  · cases h
    unfold Vm
    trivial
  · split at h
    · cases h
      unfold Vm
      rw [e]
      exact w
    · split at h
      · cases h
        unfold Vm
        unfold wr at e
        rw [e]
        exact w
      · cases h
/-- what was read stands there, word by word -/
theorem ps_sound : ∀ (ts : List (List Nat)) (st : List (List PyData)) (row : List PyData), (∀ t ∈ ts, Good t) → VmSt st → st ≠ [] → ps st ts = some row → flat st ++ ts = tmAll row ∧ VmAll row
  | [], st, row, _, hv, _, h => by
    unfold ps at h
    cases st with
    | nil => cases h
    | cons r rest =>
      cases rest with
      | nil =>
        cases h
        exact ⟨List.append_nil _, hv.1⟩
      | cons _ _ => cases h
  | t :: ts, st, row, hg, hv, hne, h => by
    have g := hg t List.mem_cons_self
    have hg2 : ∀ x ∈ ts, Good x := fun x hx => hg x (List.mem_cons_of_mem _ hx)
    unfold ps at h
    split at h
    · rename_i e
      subst e
      split at h
      · cases h
      · have k := ps_sound ts ([] :: st) row hg2 ⟨by unfold VmAll; trivial, hv⟩ (by simp) h
        refine ⟨?_, k.2⟩
        cases st with
        | nil =>
          exact absurd rfl hne
        | cons a b =>
          rw [← k.1]
          show flat (a :: b) ++ ([40] :: ts) = flat (a :: b) ++ ([40] :: tmAll []) ++ ts
          rw [List.append_assoc]
          rfl
    · rename_i n40
      split at h
      · rename_i e
        subst e
        cases st with
        | nil => cases h
        | cons top st =>
          cases st with
          | nil => cases h
          | cons nxt rest =>
            have k := ps_sound ts ((nxt ++ [.tuple top]) :: rest) row hg2 ⟨vmAll_app hv.2.1 (by unfold VmAll; exact ⟨by unfold Vm; exact hv.1, by unfold VmAll; trivial⟩), hv.2.2⟩ (by simp) h
            refine ⟨?_, k.2⟩
            rw [← k.1, flat_app]
            show flat (nxt :: rest) ++ ([40] :: tmAll top) ++ ([41] :: ts) = flat (nxt :: rest) ++ tmAll [.tuple top] ++ ts
            have e2 : tmAll [PyData.tuple top] = [40] :: (tmAll top ++ [[41]]) := by
              show tm (.tuple top) ++ [] = _
              unfold tm
              rw [List.append_nil]
            rw [e2]
            simp
      · rename_i n41
        have w : Word t := (g.resolve_left n40).resolve_left n41
        cases hp : pw t with
        | none =>
          rw [hp] at h
          cases h
        | some d =>
          rw [hp] at h
          cases st with
          | nil => cases h
          | cons top rest =>
            have k := ps_sound ts ((top ++ [d]) :: rest) row hg2 ⟨vmAll_app hv.1 (by unfold VmAll; exact ⟨pw_vm hp w, by unfold VmAll; trivial⟩), hv.2⟩ (by simp) h
            refine ⟨?_, k.2⟩
            rw [← k.1, flat_app]
            have e2 : tmAll [d] = [t] := by
              show tm d ++ [] = _
              rw [pw_tm hp, List.append_nil]
            rw [e2]
            simp
/-- the program's reading of a line -/
def readL (l : List Nat) : Option (List PyData) := if lineOf (tk [] l) = l ∧ tk [] l ≠ [] then ps [[]] (tk [] l) else none
/-- the law's -/
def lawL (l : List Nat) : Option (List PyData) := match ps [[]] (tk [] l) with
  | some row => if row ≠ [] ∧ joinL [32] (wrAll row) = l then some row else none
  | none => none
theorem tmAll_nil {row : List PyData} : tmAll row = [] ↔ row = [] := by
  cases row with
  | nil => exact ⟨fun _ => rfl, fun _ => rfl⟩
  | cons d ds =>
    obtain ⟨t, r, e⟩ := tm_ne d
    constructor
    · intro h
      have h : tm d ++ tmAll ds = [] := h
      rw [e] at h
      cases h
    · intro h
      cases h
theorem law_read (l : List Nat) : lawL l = readL l := by
  unfold lawL readL
  cases h : ps [[]] (tk [] l) with
  | none =>
    show none = if lineOf (tk [] l) = l ∧ tk [] l ≠ [] then none else none
    rw [ite_self]
  | some row =>
    obtain ⟨e, v⟩ := ps_sound (tk [] l) [[]] row (tk_all l [] (by simp)) ⟨by unfold VmAll; trivial, trivial⟩ (by simp) h
    have e : tk [] l = tmAll row := e
    have c : (row ≠ [] ∧ joinL [32] (wrAll row) = l) ↔ (lineOf (tk [] l) = l ∧ tk [] l ≠ []) := by
      rw [e, line_row v]
      constructor
      · intro ⟨a, b⟩
        exact ⟨b, fun z => a (tmAll_nil.mp z)⟩
      · intro ⟨a, b⟩
        exact ⟨fun z => b (tmAll_nil.mpr z), a⟩
    show (if row ≠ [] ∧ joinL [32] (wrAll row) = l then some row else none) = _
    by_cases k : row ≠ [] ∧ joinL [32] (wrAll row) = l
    · rw [if_pos k, if_pos (c.mp k)]
    · rw [if_neg k, if_neg fun z => k (c.mpr z)]
/-! ### what is written is read -/
mutual
def Rm : PyData → Prop
  | .tuple ds => RmAll ds
  | .none => True
  | .int i => i.natAbs < 10 ^ 1000
  | .str x => isWord (tl x) = true
  | _ => False
def RmAll : List PyData → Prop
  | [] => True
  | d :: ds => Rm d ∧ RmAll ds
end
theorem numL_head : ∀ (n : Nat), 0 < n → (numL n).head? ≠ some 48 := by
  intro n
  induction n using Nat.strongRecOn with
  | _ n ih =>
    intro h
    by_cases hn : n < 10
    · rw [numL_lt hn]
      simp
      omega
    · rw [numL_step (by omega)]
      have := ih (n / 10) (by omega) (by omega)
      cases e : numL (n / 10) with
      | nil => exact absurd e (numL_ne _)
      | cons a b =>
        rw [e] at this
        exact this
theorem fig_of {c : Nat} (h : 48 ≤ c ∧ c ≤ 57) : fig c = true := by
  unfold fig
  simp [h.1, h.2]
theorem numL_fig (n : Nat) : (numL n).all fig = true := List.all_eq_true.mpr fun c hc => fig_of (numL_digits n c hc)
theorem numL_45 (n : Nat) : ∃ c r, numL n = c :: r ∧ c ≠ 45 := by
  cases e : numL n with
  | nil => exact absurd e (numL_ne n)
  | cons c r =>
    refine ⟨c, r, rfl, fun z => ?_⟩
    have := numL_digits n c (by rw [e]; exact List.mem_cons_self)
    omega
theorem pw_int {i : Int} (h : i.natAbs < 10 ^ 1000) : pw (wr (.int i)) = some (.int i) := by
  have hlen : ∀ n : Nat, n < 10 ^ 1000 → (numL n).length ≤ 1000 := fun n hn => numL_len (by decide) hn
  rcases Int.lt_or_le i 0 with hi | hi
  · obtain ⟨n, rfl, hn⟩ : ∃ n : Nat, i = -((n : Nat) : Int) ∧ 0 < n := ⟨i.natAbs, by omega, by omega⟩
    have e : wr (.int (-((n : Nat) : Int))) = 45 :: numL n := by
      unfold wr
      exact wr_neg hn
    rw [e]
    have h' : n < 10 ^ 1000 := by
      rw [Int.natAbs_neg, Int.natAbs_natCast] at h
      exact h
    have ne := numL_ne n
    unfold pw
    rw [if_neg (by simp [ne])]
    have num : isNum (45 :: numL n) = true := by
      have ef : figs (45 :: numL n) = numL n := (if_pos rfl : (if (45 : Nat) = 45 then numL n else 45 :: numL n) = numL n)
      unfold isNum
      rw [ef, numL_fig]
      simp only [Bool.and_eq_true, Bool.or_eq_true, decide_eq_true_eq]
      exact ⟨⟨⟨ne, hlen n h'⟩, trivial⟩, .inl (numL_head n hn)⟩
    rw [if_pos num]
    have ev : numV (45 :: numL n) = -((NumText.digitsVal (numL n) : Nat) : Int) := (if_pos rfl : (if (45 : Nat) = 45 then -((NumText.digitsVal (numL n) : Nat) : Int) else ((NumText.digitsVal (45 :: numL n) : Nat) : Int)) = -((NumText.digitsVal (numL n) : Nat) : Int))
    rw [ev, numL_val]
  · obtain ⟨n, rfl⟩ : ∃ n : Nat, i = ((n : Nat) : Int) := ⟨i.toNat, by omega⟩
    have e : wr (.int ((n : Nat) : Int)) = numL n := by
      unfold wr
      exact wr_nat n
    rw [e]
    have h' : n < 10 ^ 1000 := by
      rw [Int.natAbs_natCast] at h
      exact h
    obtain ⟨c, r, ec, hc⟩ := numL_45 n
    have ne := numL_ne n
    unfold pw
    rw [if_neg (by rw [ec]; intro z; exact hc (List.cons.inj z).1)]
    have ef : figs (numL n) = numL n := by
      rw [ec]
      exact if_neg hc
    have num : isNum (numL n) = true := by
      unfold isNum
      rw [ef, numL_fig]
      simp only [Bool.and_eq_true, Bool.or_eq_true, decide_eq_true_eq]
      refine ⟨⟨⟨ne, hlen n h'⟩, trivial⟩, ?_⟩
      by_cases h0 : n = 0
      · subst h0
        exact .inr (numL_lt (by decide))
      · exact .inl (numL_head n (by omega))
    rw [if_pos num]
    have ev : numV (numL n) = ((NumText.digitsVal (numL n) : Nat) : Int) := by
      rw [ec]
      exact if_neg hc
    rw [ev, numL_val]
theorem small_range {c : Nat} (h : small c = true) : 97 ≤ c ∧ c ≤ 122 := by
  unfold small at h
  simp only [Bool.and_eq_true, decide_eq_true_eq] at h
  exact h
theorem isWord_signs {t : List Nat} (h : isWord t = true) : t ≠ [] ∧ ∀ c ∈ t, 48 ≤ c ∧ c ≤ 122 := by
  unfold isWord at h
  rw [Bool.and_eq_true] at h
  refine ⟨fun z => ?_, fun c hc => ?_⟩
  · subst z
    exact absurd h.1 (by decide)
  · have := List.all_eq_true.mp h.2 c hc
    rw [Bool.or_eq_true] at this
    rcases this with k | k
    · have := small_range k
      omega
    · have := fig_range k
      omega
theorem sp_not {c : Nat} (h : c = 45 ∨ 48 ≤ c) : sp c = false := by
  unfold sp
  have h1 : c ≠ 32 := by omega
  have h2 : c ≠ 40 := by omega
  have h3 : c ≠ 41 := by omega
  simp [h1, h2, h3]
theorem int_signs (i : Int) : wr (.int i) ≠ [] ∧ ∀ c ∈ wr (.int i), c = 45 ∨ 48 ≤ c := by
  rcases Int.lt_or_le i 0 with hi | hi
  · obtain ⟨n, rfl, hn⟩ : ∃ n : Nat, i = -((n : Nat) : Int) ∧ 0 < n := ⟨i.natAbs, by omega, by omega⟩
    have e : wr (.int (-((n : Nat) : Int))) = 45 :: numL n := by
      unfold wr
      exact wr_neg hn
    rw [e]
    refine ⟨by simp, fun c hc => ?_⟩
    rcases List.mem_cons.mp hc with hc | hc
    · exact .inl hc
    · exact .inr (numL_digits n c hc).1
  · obtain ⟨n, rfl⟩ : ∃ n : Nat, i = ((n : Nat) : Int) := ⟨i.toNat, by omega⟩
    have e : wr (.int ((n : Nat) : Int)) = numL n := by
      unfold wr
      exact wr_nat n
    rw [e]
    exact ⟨numL_ne n, fun c hc => .inr (numL_digits n c hc).1⟩
theorem int_word (i : Int) : Word (wr (.int i)) := ⟨(int_signs i).1, fun c hc => sp_not ((int_signs i).2 c hc)⟩
theorem str_word {t : List Nat} (h : isWord t = true) : Word t := ⟨(isWord_signs h).1, fun c hc => sp_not (.inr ((isWord_signs h).2 c hc).1)⟩
theorem pw_str {x : Str} (h : isWord (tl x) = true) : pw (tl x) = some (.str x) := by
  obtain ⟨ne, hs⟩ := isWord_signs h
  have first : ∃ c r, tl x = c :: r ∧ small c = true := by
    unfold isWord at h
    rw [Bool.and_eq_true] at h
    cases e : tl x with
    | nil => exact absurd e ne
    | cons c r =>
      rw [e] at h
      exact ⟨c, r, rfl, h.1⟩
  obtain ⟨c, r, e, hc⟩ := first
  have hr := small_range hc
  unfold pw
  rw [if_neg (by rw [e]; intro z; have := (List.cons.inj z).1; omega)]
  have notnum : isNum (tl x) = false := by
    have ef : figs (tl x) = c :: r := by
      rw [e]
      exact if_neg (by omega)
    have nf : fig c = false := by
      unfold fig
      have : ¬ c ≤ 57 := by omega
      simp [this]
    unfold isNum
    rw [ef, List.all_cons, nf]
    simp
  rw [notnum, if_neg (by decide), if_pos h, str_tl]
mutual
theorem rm_vm : ∀ d, Rm d → Vm d
  | .tuple ds, h => by
    unfold Rm at h
    unfold Vm
    exact rmAll_vm ds h
  | .none, _ => by unfold Vm; trivial
  | .int i, _ => by
    unfold Vm
    exact int_word i
  | .str x, h => by
    unfold Rm at h
    unfold Vm
    exact str_word h
  | .bool _, h => by unfold Rm at h; exact h.elim
  | .list _, h => by unfold Rm at h; exact h.elim
  | .dict _, h => by unfold Rm at h; exact h.elim
theorem rmAll_vm : ∀ ds, RmAll ds → VmAll ds
  | [], _ => by unfold VmAll; trivial
  | d :: ds, h => by
    unfold RmAll at h
    unfold VmAll
    exact ⟨rm_vm d h.1, rmAll_vm ds h.2⟩
end
theorem ps_atom {d : PyData} {top : List PyData} {rest : List (List PyData)} {ts : List (List Nat)} (e : tm d = [wr d]) (p : pw (wr d) = some d) (w : Word (wr d)) : ps (top :: rest) (tm d ++ ts) = ps ((top ++ [d]) :: rest) ts := by
  rw [e]
  show ps (top :: rest) (wr d :: ts) = _
  conv => lhs; unfold ps
  rw [if_neg (word_ne w).1, if_neg (word_ne w).2, p]
mutual
theorem ps_tm : ∀ (d : PyData) (top : List PyData) (rest : List (List PyData)) (ts : List (List Nat)), Rm d → rest.length + 1 + dep d ≤ 12 → ps (top :: rest) (tm d ++ ts) = ps ((top ++ [d]) :: rest) ts
  | .tuple ds, top, rest, ts, h, hd => by
    unfold Rm at h
    unfold dep at hd
    have e : tm (.tuple ds) ++ ts = [40] :: (tmAll ds ++ ([41] :: ts)) := by
      unfold tm
      simp
    rw [e]
    conv => lhs; unfold ps
    rw [if_pos rfl, if_neg (by rw [List.length_cons]; omega), ps_tmAll ds [] (top :: rest) ([41] :: ts) h (by rw [List.length_cons]; omega)]
    conv => lhs; unfold ps
    rw [if_neg (by decide), if_pos rfl]
    rfl
  | .none, top, rest, ts, _, _ => ps_atom (by unfold tm; rfl) (by unfold wr pw; rw [if_pos rfl]) ⟨by unfold wr; simp, by unfold wr; decide⟩
  | .int i, top, rest, ts, h, _ => by
    unfold Rm at h
    exact ps_atom (by unfold tm; rfl) (pw_int h) (int_word i)
  | .str x, top, rest, ts, h, _ => by
    unfold Rm at h
    exact ps_atom (by unfold tm; rfl) (by unfold wr; exact pw_str h) (by unfold wr; exact str_word h)
  | .bool _, _, _, _, h, _ => by unfold Rm at h; exact h.elim
  | .list _, _, _, _, h, _ => by unfold Rm at h; exact h.elim
  | .dict _, _, _, _, h, _ => by unfold Rm at h; exact h.elim
theorem ps_tmAll : ∀ (ds acc : List PyData) (rest : List (List PyData)) (ts : List (List Nat)), RmAll ds → rest.length + 1 + depAll ds ≤ 12 → ps (acc :: rest) (tmAll ds ++ ts) = ps ((acc ++ ds) :: rest) ts
  | [], acc, rest, ts, _, _ => by
    rw [List.append_nil]
    rfl
  | d :: ds, acc, rest, ts, h, hd => by
    unfold RmAll at h
    unfold depAll at hd
    show ps (acc :: rest) (tm d ++ tmAll ds ++ ts) = _
    rw [List.append_assoc, ps_tm d acc rest _ h.1 (by omega), ps_tmAll ds (acc ++ [d]) rest ts h.2 (by omega), List.append_assoc]
    rfl
end
theorem atom_good {d : PyData} (h : Rm d) (e : tm d = [wr d]) (w : Word (wr d)) : ∀ t ∈ tm d, Good t := fun t ht => by
  rw [e, List.mem_singleton] at ht
  rw [ht]
  exact .inr (.inr w)
mutual
theorem tm_good : ∀ d, Rm d → ∀ t ∈ tm d, Good t
  | .tuple ds, h, t, ht => by
    unfold Rm at h
    unfold tm at ht
    rcases List.mem_cons.mp ht with ht | ht
    · exact .inl ht
    · rcases List.mem_append.mp ht with ht | ht
      · exact tmAll_good ds h t ht
      · rw [List.mem_singleton] at ht
        exact .inr (.inl ht)
  | .none, h, t, ht => atom_good (d := .none) h (by unfold tm; rfl) ⟨by unfold wr; simp, by unfold wr; decide⟩ t ht
  | .int i, h, t, ht => atom_good h (by unfold tm; rfl) (int_word i) t ht
  | .str x, h, t, ht => atom_good h (by unfold tm; rfl) (by unfold Rm at h; unfold wr; exact str_word h) t ht
  | .bool _, h, _, _ => by unfold Rm at h; exact h.elim
  | .list _, h, _, _ => by unfold Rm at h; exact h.elim
  | .dict _, h, _, _ => by unfold Rm at h; exact h.elim
theorem tmAll_good : ∀ ds, RmAll ds → ∀ t ∈ tmAll ds, Good t
  | [], _, t, ht => by cases ht
  | d :: ds, h, t, ht => by
    unfold RmAll at h
    have ht : t ∈ tm d ++ tmAll ds := ht
    rcases List.mem_append.mp ht with ht | ht
    · exact tm_good d h.1 t ht
    · exact tmAll_good ds h.2 t ht
end
/-- a row's line -/
def line (row : List PyData) : List Nat := joinL [32] (wrAll row)
theorem read_line {row : List PyData} (h : RmAll row) (ne : row ≠ []) (hd : depAll row ≤ 11) : readL (line row) = some row := by
  have v := rmAll_vm row h
  have e : tk [] (line row) = tmAll row := by
    unfold line
    rw [← line_row v]
    exact tk_line (tmAll_good row h)
  unfold readL
  rw [e, if_pos ⟨by rw [line_row v]; rfl, fun z => ne (tmAll_nil.mp z)⟩]
  have k := ps_tmAll row [] [] [] h (by show 0 + 1 + depAll row ≤ 12; omega)
  rw [List.append_nil, List.nil_append] at k
  rw [k]
  rfl
/-! ### papers -/
/-- rows from the n-th on: all of them, or the first line that can't be read -/
def rd : List (List Nat) → Nat → Sum Nat (List (List PyData))
  | [], _ => .inr []
  | l :: ls, n => match readL l with
    | none => .inl n
    | some row => match rd ls (n + 1) with
      | .inl k => .inl k
      | .inr rows => .inr (row :: rows)
def told (x : List Nat) : Sum Nat (List (List PyData)) := if x = [] then .inr [] else rd (spl [10] 0 [] x) 1
def paper (rows : List (List PyData)) : List Nat := joinL [10] (rows.map line)
def RmRow (row : List PyData) : Prop := RmAll row ∧ row ≠ [] ∧ depAll row ≤ 11
theorem rd_lines : ∀ (rows : List (List PyData)) (n : Nat), (∀ r ∈ rows, RmRow r) → rd (rows.map line) n = .inr rows
  | [], _, _ => rfl
  | row :: rows, n, h => by
    obtain ⟨a, b, c⟩ := h row List.mem_cons_self
    show (match readL (line row) with | none => _ | some r => _) = _
    rw [read_line a b c]
    show (match rd (rows.map line) (n + 1) with | .inl k => _ | .inr rs => _) = _
    rw [rd_lines rows (n + 1) fun r hr => h r (List.mem_cons_of_mem _ hr)]
/-- no line feed in what is written -/
theorem joinL_free {s : Nat} {S : List Nat} (hS : s ∉ S) : ∀ (ws : List (List Nat)), (∀ w ∈ ws, s ∉ w) → s ∉ joinL S ws
  | [], _ => by
    show s ∉ ([] : List Nat)
    simp
  | [w], h => h w List.mem_cons_self
  | w :: v :: ws, h => by
    show s ∉ w ++ (S ++ joinL S (v :: ws))
    intro z
    rcases List.mem_append.mp z with z | z
    · exact h w List.mem_cons_self z
    · rcases List.mem_append.mp z with z | z
      · exact hS z
      · exact joinL_free hS (v :: ws) (fun x hx => h x (List.mem_cons_of_mem _ hx)) z
mutual
theorem wr_nl : ∀ d, Rm d → 10 ∉ wr d
  | .tuple ds, h => by
    unfold Rm at h
    unfold wr
    intro z
    rcases List.mem_cons.mp z with z | z
    · cases z
    · rcases List.mem_append.mp z with z | z
      · exact joinL_free (by decide) (wrAll ds) (wrAll_nl ds h) z
      · rw [List.mem_singleton] at z
        cases z
  | .none, _ => by unfold wr; decide
  | .int i, _ => fun z => by
    rcases (int_signs i).2 10 z with k | k <;> omega
  | .str x, h => fun z => by
    unfold Rm at h
    unfold wr at z
    have := (isWord_signs h).2 10 z
    omega
  | .bool _, h => by unfold Rm at h; exact h.elim
  | .list _, h => by unfold Rm at h; exact h.elim
  | .dict _, h => by unfold Rm at h; exact h.elim
theorem wrAll_nl : ∀ ds, RmAll ds → ∀ w ∈ wrAll ds, 10 ∉ w
  | [], _, w, hw => by
    unfold wrAll at hw
    cases hw
  | d :: ds, h, w, hw => by
    unfold RmAll at h
    unfold wrAll at hw
    rcases List.mem_cons.mp hw with hw | hw
    · rw [hw]
      exact wr_nl d h.1
    · exact wrAll_nl ds h.2 w hw
end
theorem wr_ne : ∀ d, Rm d → wr d ≠ []
  | .tuple ds, _ => by unfold wr; simp
  | .none, _ => by unfold wr; simp
  | .int i, _ => (int_signs i).1
  | .str x, h => by
    unfold Rm at h
    unfold wr
    exact (isWord_signs h).1
  | .bool _, h => by unfold Rm at h; exact h.elim
  | .list _, h => by unfold Rm at h; exact h.elim
  | .dict _, h => by unfold Rm at h; exact h.elim
theorem line_ne {row : List PyData} (h : RmRow row) : line row ≠ [] := by
  obtain ⟨a, b, _⟩ := h
  cases row with
  | nil => exact absurd rfl b
  | cons d ds =>
    unfold RmAll at a
    show joinL [32] (wr d :: wrAll ds) ≠ []
    rw [joinL_tail]
    intro z
    exact wr_ne d a.1 (List.append_eq_nil_iff.mp z).1
/-- the paper's text is read to the paper -/
theorem told_paper {rows : List (List PyData)} (h : ∀ r ∈ rows, RmRow r) : told (paper rows) = .inr rows := by
  unfold told paper
  cases rows with
  | nil => rfl
  | cons row rows =>
    have ne : joinL [10] ((row :: rows).map line) ≠ [] := by
      have l := line_ne (h row List.mem_cons_self)
      rw [List.map_cons]
      cases e : rows.map line with
      | nil => exact l
      | cons a b =>
        show line row ++ ([10] ++ joinL [10] (a :: b)) ≠ []
        intro z
        exact l (List.append_eq_nil_iff.mp z).1
    rw [if_neg ne, spl_join (by simp) fun p hp => ?_, rd_lines _ 1 h]
    obtain ⟨r, hr, rfl⟩ := List.mem_map.mp hp
    exact joinL_free (by decide) _ (wrAll_nl r (h r hr).1)
/-! ### the law's last texts -/
def nest : PyData → Nat → PyData
  | d, 0 => d
  | d, n + 1 => nest (.tuple [d]) n
def deep (n : Nat) : List Nat := List.replicate n 40 ++ [120] ++ List.replicate n 41
theorem told_deep11 : told (deep 11) = .inr [[nest (.str (Str.ofString "x")) 11]] := by
  have h : deep 11 = paper [[nest (.str (Str.ofString "x")) 11]] := by decide +kernel
  rw [h]
  refine told_paper fun r hr => ?_
  rw [List.mem_singleton] at hr
  subst hr
  refine ⟨?_, by simp, by decide +kernel⟩
  have w : isWord (tl (Str.ofString "x")) = true := by decide +kernel
  simp only [nest, RmAll, Rm, w, and_self]
theorem told_deep12 : told (deep 12) = .inl 1 := by rfl
theorem told_none : told [] = .inr [] := rfl
theorem told_end : told (tl (Str.ofString "a 1\n")) = .inl 2 := by
  rw [show tl (Str.ofString "a 1\n") = [97, 32, 49, 10] by decide +kernel]
  rfl
theorem told_gap : told (tl (Str.ofString "a\n\n00")) = .inl 2 := by
  rw [show tl (Str.ofString "a\n\n00") = [97, 10, 10, 48, 48] by decide +kernel]
  rfl
/-- 1 and so many 0 -/
def long (n : Nat) : List Nat := 49 :: List.replicate n 48
theorem long_fig (n : Nat) : (long n).all fig = true := by
  unfold long
  rw [List.all_cons]
  simp [fig]
theorem long_word (n : Nat) : Word (long n) := ⟨by unfold long; simp, fun c hc => sp_not (.inr (fig_range (List.all_eq_true.mp (long_fig n) c hc)).1)⟩
theorem long_len (n : Nat) : (long n).length = n + 1 := by
  unfold long
  rw [List.length_cons, List.length_replicate]
theorem long_num (n : Nat) : isNum (long n) = decide (n + 1 ≤ 1000) := by
  have ef : figs (long n) = long n := (if_neg (by decide) : (if (49 : Nat) = 45 then List.replicate n 48 else 49 :: List.replicate n 48) = long n)
  unfold isNum
  rw [ef, long_fig, long_len]
  have h1 : long n ≠ [] := by unfold long; simp
  have h2 : (long n).head? ≠ some 48 := by unfold long; simp
  simp [h1, h2]
theorem long_numN (n : Nat) : isNum (45 :: long n) = decide (n + 1 ≤ 1000) := by
  have ef : figs (45 :: long n) = long n := (if_pos rfl : (if (45 : Nat) = 45 then long n else 45 :: long n) = long n)
  unfold isNum
  rw [ef, long_fig, long_len]
  have h1 : long n ≠ [] := by unfold long; simp
  have h2 : (long n).head? ≠ some 48 := by unfold long; simp
  simp [h1, h2]
theorem pw_long (n : Nat) : (pw (long n)).isSome = decide (n + 1 ≤ 1000) := by
  unfold pw
  rw [if_neg (by unfold long; simp), long_num]
  by_cases h : n + 1 ≤ 1000
  · rw [if_pos (by simp [h])]
    simp [h]
  · rw [if_neg (by simp [h]), if_neg (by unfold isWord long; simp [small])]
    simp [h]
theorem pw_longN (n : Nat) : (pw (45 :: long n)).isSome = decide (n + 1 ≤ 1000) := by
  unfold pw
  rw [if_neg (by unfold long; simp), long_numN]
  by_cases h : n + 1 ≤ 1000
  · rw [if_pos (by simp [h])]
    simp [h]
  · rw [if_neg (by simp [h]), if_neg (by unfold isWord; simp [small])]
    simp [h]
def isL {α : Type} : Sum Nat α → Bool
  | .inl _ => false
  | .inr _ => true
theorem ps_words : ∀ (ts : List (List Nat)) (acc : List PyData), (∀ t ∈ ts, Word t) → (ps [acc] ts).isSome = ts.all fun t => (pw t).isSome
  | [], acc, _ => rfl
  | t :: ts, acc, h => by
    have w := h t List.mem_cons_self
    rw [List.all_cons]
    conv => lhs; unfold ps
    rw [if_neg (word_ne w).1, if_neg (word_ne w).2]
    cases e : pw t with
    | none => rfl
    | some d =>
      show (ps [acc ++ [d]] ts).isSome = _
      rw [ps_words ts _ fun x hx => h x (List.mem_cons_of_mem _ hx)]
      rfl
theorem read_words {ts : List (List Nat)} (ne : ts ≠ []) (h : ∀ t ∈ ts, Word t) : (readL (lineOf ts)).isSome = ts.all fun t => (pw t).isSome := by
  have e : tk [] (lineOf ts) = ts := tk_line fun t ht => .inr (.inr (h t ht))
  unfold readL
  rw [e, if_pos ⟨rfl, ne⟩]
  exact ps_words ts [] h
theorem told_long (n : Nat) : isL (told ([97, 10] ++ long n)) = decide (n + 1 ≤ 1000) := by
  have nl : 10 ∉ long n := fun z => by
    have := fig_range (List.all_eq_true.mp (long_fig n) 10 z)
    omega
  have e : spl [10] 0 [] ([97, 10] ++ long n) = [[97], long n] := spl_join (s := 10) (S := []) (parts := [[97], long n]) (by simp) fun p hp => by
    rcases List.mem_cons.mp hp with hp | hp
    · subst hp
      decide
    · rw [List.mem_singleton] at hp
      rw [hp]
      exact nl
  unfold told
  rw [if_neg (by simp), e]
  have a : readL [97] = some [.str (str [97])] := by rfl
  have b := read_words (ts := [long n]) (by simp) fun t ht => by
    rw [List.mem_singleton] at ht
    rw [ht]
    exact long_word n
  rw [List.all_cons, List.all_nil, Bool.and_true, pw_long] at b
  have lb : lineOf [long n] = long n := List.append_nil _
  rw [lb] at b
  unfold rd
  rw [a]
  unfold rd
  cases c : readL (long n) with
  | none =>
    rw [c] at b
    rw [← b]
    rfl
  | some r =>
    rw [c] at b
    rw [← b]
    rfl
theorem told_longN (n : Nat) : isL (told (45 :: long n ++ [32, 48])) = decide (n + 1 ≤ 1000) := by
  have w : ∀ t ∈ [45 :: long n, [48]], Word t := fun t ht => by
    rcases List.mem_cons.mp ht with ht | ht
    · rw [ht]
      refine ⟨by simp, fun c hc => ?_⟩
      rcases List.mem_cons.mp hc with hc | hc
      · exact sp_not (.inl hc)
      · exact (long_word n).2 c hc
    · rw [List.mem_singleton] at ht
      rw [ht]
      exact ⟨by simp, by decide⟩
  have l : lineOf [45 :: long n, [48]] = 45 :: long n ++ [32, 48] := by
    show (45 :: long n) ++ lo (45 :: long n) [[48]] = _
    rw [lo_word (w [48] (by simp))]
    rfl
  have nl : 10 ∉ 45 :: long n ++ [32, 48] := fun z => by
    rcases List.mem_append.mp z with z | z
    · rcases List.mem_cons.mp z with z | z
      · cases z
      · have := fig_range (List.all_eq_true.mp (long_fig n) 10 z)
        omega
    · revert z
      decide
  have e : spl [10] 0 [] (45 :: long n ++ [32, 48]) = [45 :: long n ++ [32, 48]] := spl_last1 nl
  have b := read_words (by simp) w
  rw [List.all_cons, List.all_cons, List.all_nil, Bool.and_true, pw_longN, l, show (pw [48]).isSome = true from rfl, Bool.and_true] at b
  unfold told
  rw [if_neg (by simp), e]
  unfold rd
  cases c : readL (45 :: long n ++ [32, 48]) with
  | none =>
    rw [c] at b
    rw [← b]
    rfl
  | some r =>
    rw [c] at b
    rw [← b]
    rfl
mutual
/-- a member that may be written: no number beyond 4300 figures -/
def Wm : PyData → Prop
  | .tuple ds => WmAll ds
  | .none => True
  | .int i => i.natAbs < 10 ^ 4300
  | .str _ => True
  | _ => False
def WmAll : List PyData → Prop
  | [] => True
  | d :: ds => Wm d ∧ WmAll ds
end
theorem wmAll_get : ∀ {ds : List PyData} {i : Nat} {d : PyData}, WmAll ds → ds[i]? = some d → Wm d
  | [], _, _, _, e => by simp at e
  | _ :: _, 0, d, h, e => by
    unfold WmAll at h
    simp at e
    subst e
    exact h.1
  | _ :: ds, i + 1, d, h, e => by
    unfold WmAll at h
    exact wmAll_get h.2 (by simpa using e)
theorem wrAll_get : ∀ {ds : List PyData} {i : Nat} {d : PyData}, ds[i]? = some d → (wrAll ds)[i]? = some (wr d)
  | [], _, _, e => by simp at e
  | d :: ds, 0, x, e => by
    simp at e
    subst e
    unfold wrAll
    rfl
  | d :: ds, i + 1, x, e => by
    unfold wrAll
    simpa using wrAll_get (ds := ds) (i := i) (by simpa using e)
theorem wrAll_len : ∀ ds : List PyData, (wrAll ds).length = ds.length
  | [] => rfl
  | d :: ds => by
    unfold wrAll
    rw [List.length_cons, List.length_cons, wrAll_len ds]
theorem joinL_len {S : List Nat} : ∀ (ws : List (List Nat)) {w : List Nat}, w ∈ ws → w.length ≤ (joinL S ws).length
  | [], _, h => by cases h
  | [v], w, h => by
    rw [List.mem_singleton] at h
    rw [h]
    exact Nat.le_refl _
  | v :: u :: ws, w, h => by
    show w.length ≤ (v ++ (S ++ joinL S (u :: ws))).length
    rw [List.length_append, List.length_append]
    rcases List.mem_cons.mp h with h | h
    · rw [h]
      omega
    · have := joinL_len (S := S) (u :: ws) h
      omega
theorem joinL_sum {S : List Nat} : ∀ (ws : List (List Nat)), (ws.map (·.length)).sum + ws.length * S.length ≤ (joinL S ws).length + S.length
  | [] => by simp
  | [v] => by
    show v.length + 0 + 1 * S.length ≤ v.length + S.length
    omega
  | v :: u :: ws => by
    have := joinL_sum (S := S) (u :: ws)
    show v.length + ((u :: ws).map (·.length)).sum + ((u :: ws).length + 1) * S.length ≤ (v ++ (S ++ joinL S (u :: ws))).length + S.length
    rw [List.length_append, List.length_append, Nat.add_mul]
    omega
/-! ### a line word by word -/
def lastOf : List Nat → List (List Nat) → List Nat
  | p, [] => p
  | _, t :: r => lastOf t r
theorem lo_app : ∀ (a b : List (List Nat)) (p : List Nat), lo p (a ++ b) = lo p a ++ lo (lastOf p a) b
  | [], b, p => rfl
  | t :: a, b, p => by
    show (if t ≠ [41] ∧ p ≠ [40] then [32] else []) ++ t ++ lo t (a ++ b) = (if t ≠ [41] ∧ p ≠ [40] then [32] else []) ++ t ++ lo t a ++ lo (lastOf t a) b
    rw [lo_app a b t, List.append_assoc (_ ++ t)]
theorem lastOf_snoc : ∀ (a : List (List Nat)) (p t : List Nat), lastOf p (a ++ [t]) = t
  | [], _, _ => rfl
  | x :: a, _, t => lastOf_snoc a x t
theorem line_pre (ts : List (List Nat)) (i : Nat) : (lineOf (ts.take i)).length ≤ (lineOf ts).length := by
  conv => rhs; rw [← List.take_append_drop i ts]
  cases e : ts.take i with
  | nil => exact Nat.zero_le _
  | cons t r =>
    show (t ++ lo t r).length ≤ (t ++ lo t (r ++ ts.drop i)).length
    rw [lo_app, List.length_append, List.length_append, List.length_append]
    omega
theorem line_first {ts : List (List Nat)} {t : List Nat} (h : ts[0]? = some t) : lineOf (ts.take 1) = t := by
  rw [List.take_add_one, h]
  exact List.append_nil t
theorem line_next {ts : List (List Nat)} {i : Nat} {p t : List Nat} (hp : ts[i]? = some p) (h : ts[i + 1]? = some t) : lineOf (ts.take (i + 2)) = lineOf (ts.take (i + 1)) ++ (if t ≠ [41] ∧ p ≠ [40] then [32] else []) ++ t := by
  have e : ts.take (i + 2) = ts.take (i + 1) ++ [t] := by rw [List.take_add_one, h]; rfl
  have e1 : ts.take (i + 1) = ts.take i ++ [p] := by rw [List.take_add_one, hp]; rfl
  have l : ∀ q, lastOf q (ts.take (i + 1)) = p := fun q => by rw [e1, lastOf_snoc]
  rw [e]
  cases k : ts.take (i + 1) with
  | nil =>
    rw [e1] at k
    simp at k
  | cons x r =>
    have lx : lastOf x r = p := by
      have := l []
      rw [k] at this
      exact this
    show x ++ lo x (r ++ [t]) = x ++ lo x r ++ _ ++ t
    rw [lo_app, lx]
    show x ++ (lo x r ++ ((if t ≠ [41] ∧ p ≠ [40] then [32] else []) ++ t ++ [])) = _
    rw [List.append_nil]
    simp [List.append_assoc]
theorem str_eq {t u : List Nat} {z : Str} (h : tl z = u) : str t = z ↔ t = u := by
  subst h
  constructor
  · intro e
    have := congrArg tl e
    exact this
  · intro e
    rw [e, str_tl]
theorem lo_len : ∀ (ts : List (List Nat)) (p : List Nat), (lo p ts).length ≤ (ts.map fun t => t.length + 1).sum
  | [], _ => Nat.zero_le _
  | t :: ts, p => by
    have ih := lo_len ts t
    show ((if t ≠ [41] ∧ p ≠ [40] then [32] else []) ++ t ++ lo t ts).length ≤ (t.length + 1) + (ts.map fun t => t.length + 1).sum
    rw [List.length_append, List.length_append]
    have : (if t ≠ [41] ∧ p ≠ [40] then [32] else ([] : List Nat)).length ≤ 1 := by split <;> simp
    omega
theorem line_len (ts : List (List Nat)) : (lineOf ts).length ≤ (ts.map fun t => t.length + 1).sum := by
  cases ts with
  | nil => exact Nat.zero_le _
  | cons t r =>
    have := lo_len r t
    show (t ++ lo t r).length ≤ (t.length + 1) + (r.map fun t => t.length + 1).sum
    rw [List.length_append]
    omega
theorem tk_sum : ∀ (l w : List Nat), ((tk w l).map fun t => t.length + 1).sum ≤ 2 * (w.length + l.length)
  | [], w => by
    unfold tk one
    by_cases h : w = []
    · rw [if_pos h]
      simp
    · rw [if_neg h]
      have : 0 < w.length := List.length_pos_iff.mpr h
      simp
      omega
  | c :: r, w => by
    have h1 := tk_sum r []
    have h2 := tk_sum r (w ++ [c])
    have ho : ((one w).map fun t => t.length + 1).sum ≤ 2 * w.length := by
      unfold one
      by_cases h : w = []
      · rw [if_pos h]
        simp
      · rw [if_neg h]
        have : 0 < w.length := List.length_pos_iff.mpr h
        simp
        omega
    unfold tk
    by_cases hc : sp c = true
    · rw [if_pos hc, List.map_append, List.map_append, List.sum_append, List.sum_append, List.length_cons]
      have : ((if c = 32 then [] else [[c]] : List (List Nat)).map fun t => t.length + 1).sum ≤ 2 := by
        split <;> simp
      simp only [List.length_nil] at h1
      omega
    · rw [if_neg hc, List.length_cons]
      rw [List.length_append, List.length_singleton] at h2
      omega
theorem tk_many (l w : List Nat) : (tk w l).length ≤ 2 * (w.length + l.length) := by
  have h := tk_sum l w
  have : ∀ ts : List (List Nat), ts.length ≤ (ts.map fun t => t.length + 1).sum := fun ts => by
    induction ts with
    | nil => exact Nat.zero_le _
    | cons t r ih =>
      rw [List.length_cons, List.map_cons, List.sum_cons]
      omega
  exact Nat.le_trans (this _) h
end PT
set_option Elab.async false
set_option linter.all false
set_option maxRecDepth 100000
/-! K66P2: more of papers as text. -/
namespace PT
open PySem PySem.Spec PyProof.Rows L2 TL LW
/-- a numeral's value is read -/
theorem int_reads {z : Str} (h : (figs (tl z)).all fig = true) (ne : figs (tl z) ≠ []) (hl : z.length ≤ 4300) : intText? z = some (numV (tl z)) := by
  have a := figs_all h
  cases e : tl z with
  | nil =>
    rw [e] at ne
    exact absurd rfl ne
  | cons c r =>
    rw [e] at a ne
    by_cases hc : c = 45
    · subst hc
      have e1 : figs (45 :: r) = r := (if_pos rfl : (if (45 : Nat) = 45 then r else 45 :: r) = r)
      rw [e1] at a ne
      have k := PySem.intText_neg (x := z) (cs := r) e a ne hl
      rw [k]
      have v : numV (45 :: r) = -((NumText.digitsVal r : Nat) : Int) := (if_pos rfl : (if (45 : Nat) = 45 then -((NumText.digitsVal r : Nat) : Int) else ((NumText.digitsVal (45 :: r) : Nat) : Int)) = _)
      rw [v]
    · have e1 : figs (c :: r) = c :: r := (if_neg hc : (if c = 45 then r else c :: r) = c :: r)
      rw [e1] at a ne
      have e' : z.cps.toList = c :: r := e
      have k := PySem.intText_digits (x := z) (by rw [e']; exact a) (by rw [e']; exact ne) hl
      rw [k, e']
      have v : numV (c :: r) = ((NumText.digitsVal (c :: r) : Nat) : Int) := (if_neg hc : (if c = 45 then -((NumText.digitsVal r : Nat) : Int) else ((NumText.digitsVal (c :: r) : Nat) : Int)) = _)
      rw [v]
theorem isNum_parts {t : List Nat} (h : isNum t = true) : (figs t).all fig = true ∧ figs t ≠ [] ∧ (figs t).length ≤ 1000 := by
  unfold isNum at h
  simp only [Bool.and_eq_true, decide_eq_true_eq] at h
  exact ⟨h.1.2, h.1.1.1, h.1.1.2⟩
theorem figs_len (t : List Nat) : t.length ≤ (figs t).length + 1 := by
  cases t with
  | nil => exact Nat.zero_le _
  | cons c r =>
    show r.length + 1 ≤ (if c = 45 then r else c :: r).length + 1
    split
    · exact Nat.le_refl _
    · rw [List.length_cons]
      omega
theorem digits_small : ∀ (cs : List Nat) (n : Nat), NumText.AllDigits cs → cs.foldl (fun acc c => acc * 10 + (c - 48)) n < (n + 1) * 10 ^ cs.length
  | [], n, _ => by simp
  | c :: cs, n, h => by
    have k := digits_small cs (n * 10 + (c - 48)) h.tail
    have hc := h.head
    rw [List.foldl_cons, List.length_cons, Nat.pow_succ]
    refine Nat.lt_of_lt_of_le k ?_
    rw [Nat.mul_comm (10 ^ cs.length) 10, ← Nat.mul_assoc]
    exact Nat.mul_le_mul_right _ (by omega)
theorem digitsVal_lt {cs : List Nat} (h : NumText.AllDigits cs) : NumText.digitsVal cs < 10 ^ cs.length := by
  have k := digits_small cs 0 h
  rw [Nat.zero_add, Nat.one_mul] at k
  exact k
theorem numV_small {t : List Nat} (h : (figs t).all fig = true) (hl : (figs t).length ≤ 1000) : (numV t).natAbs < 10 ^ 4300 := by
  have a := figs_all h
  have up : ∀ cs : List Nat, NumText.AllDigits cs → cs.length ≤ 1000 → NumText.digitsVal cs < 10 ^ 4300 := fun cs k l => Nat.lt_of_lt_of_le (digitsVal_lt k) (Nat.pow_le_pow_right (by decide) (by omega))
  cases t with
  | nil =>
    show (0 : Int).natAbs < 10 ^ 4300
    exact Nat.pos_of_ne_zero (by simp)
  | cons c r =>
    by_cases hc : c = 45
    · subst hc
      have e1 : figs (45 :: r) = r := (if_pos rfl : (if (45 : Nat) = 45 then r else 45 :: r) = r)
      have v : numV (45 :: r) = -((NumText.digitsVal r : Nat) : Int) := (if_pos rfl : (if (45 : Nat) = 45 then -((NumText.digitsVal r : Nat) : Int) else ((NumText.digitsVal (45 :: r) : Nat) : Int)) = _)
      rw [e1] at a hl
      rw [v, Int.natAbs_neg, Int.natAbs_natCast]
      exact up _ a hl
    · have e1 : figs (c :: r) = c :: r := (if_neg hc : (if c = 45 then r else c :: r) = c :: r)
      have v : numV (c :: r) = ((NumText.digitsVal (c :: r) : Nat) : Int) := (if_neg hc : (if c = 45 then -((NumText.digitsVal r : Nat) : Int) else ((NumText.digitsVal (c :: r) : Nat) : Int)) = _)
      rw [e1] at a hl
      rw [v, Int.natAbs_natCast]
      exact up _ a hl
theorem pw_ok {t : List Nat} {d : PyData} (h : pw t = some d) : fz d = true ∧ Wm d ∧ dep d = 0 := by
  unfold pw at h
  split at h
  · cases h
    exact ⟨rfl, by unfold Wm; trivial, rfl⟩
  · split at h
    · rename_i e
      cases h
      obtain ⟨a1, a2, a3⟩ := isNum_parts e
      exact ⟨rfl, by unfold Wm; exact numV_small a1 a3, rfl⟩
    · split at h
      · cases h
        exact ⟨rfl, by unfold Wm; trivial, rfl⟩
      · cases h
theorem fzAll_app {a b : List PyData} (h1 : fzAll a = true) (h2 : fzAll b = true) : fzAll (a ++ b) = true := fzAll_iff.mpr fun d hd => by
  rcases List.mem_append.mp hd with hd | hd
  · exact fzAll_iff.mp h1 d hd
  · exact fzAll_iff.mp h2 d hd
theorem wmAll_app : ∀ {a b : List PyData}, WmAll a → WmAll b → WmAll (a ++ b)
  | [], _, _, h => h
  | _ :: _, _, h1, h2 => by
    unfold WmAll at h1
    rw [List.cons_append]
    unfold WmAll
    exact ⟨h1.1, wmAll_app h1.2 h2⟩
theorem depAll_app : ∀ (a b : List PyData), depAll (a ++ b) = max (depAll a) (depAll b)
  | [], b => by
    show depAll b = max 0 (depAll b)
    omega
  | d :: a, b => by
    show max (dep d) (depAll (a ++ b)) = max (max (dep d) (depAll a)) (depAll b)
    rw [depAll_app a b]
    omega
/-- a row at a height -/
def OkRow (r : List PyData) (h : Nat) : Prop := fzAll r = true ∧ WmAll r ∧ depAll r + h ≤ 11
def OkSt : List (List PyData) → Prop
  | [] => True
  | r :: rest => OkRow r rest.length ∧ OkSt rest
theorem okRow_snoc {r : List PyData} {d : PyData} {h : Nat} (k : OkRow r h) (a : fz d = true) (b : Wm d) (c : dep d + h ≤ 11) : OkRow (r ++ [d]) h := by
  refine ⟨fzAll_app k.1 ?_, wmAll_app k.2.1 ?_, ?_⟩
  · unfold fzAll
    rw [a]
    rfl
  · unfold WmAll
    exact ⟨b, by unfold WmAll; trivial⟩
  · rw [depAll_app]
    have := k.2.2
    show max (depAll r) (max (dep d) 0) + h ≤ 11
    omega
theorem ps_ok : ∀ (ts : List (List Nat)) (st : List (List PyData)) (row : List PyData), OkSt st → st ≠ [] → ps st ts = some row → OkRow row 0
  | [], st, row, hs, _, h => by
    unfold ps at h
    cases st with
    | nil => cases h
    | cons r rest =>
      cases rest with
      | nil =>
        cases h
        exact hs.1
      | cons _ _ => cases h
  | t :: ts, st, row, hs, hne, h => by
    unfold ps at h
    split at h
    · split at h
      · cases h
      · rename_i hl
        refine ps_ok ts ([] :: st) row ⟨⟨rfl, by unfold WmAll; trivial, ?_⟩, hs⟩ (by simp) h
        show 0 + st.length ≤ 11
        cases st with
        | nil => exact absurd rfl hne
        | cons a b =>
          have := hs.1.2.2
          rw [List.length_cons] at hl ⊢
          omega
    · split at h
      · cases st with
        | nil => cases h
        | cons top st =>
          cases st with
          | nil => cases h
          | cons nxt rest =>
            obtain ⟨h1, h2, h3⟩ := hs
            refine ps_ok ts ((nxt ++ [.tuple top]) :: rest) row ⟨okRow_snoc h2 ?_ ?_ ?_, h3⟩ (by simp) h
            · unfold fz
              exact h1.1
            · unfold Wm
              exact h1.2.1
            · have := h1.2.2
              rw [List.length_cons] at this
              show depAll top + 1 + rest.length ≤ 11
              omega
      · cases hp : pw t with
        | none =>
          rw [hp] at h
          cases h
        | some d =>
          rw [hp] at h
          obtain ⟨a, b, c⟩ := pw_ok hp
          cases st with
          | nil => cases h
          | cons top rest =>
            refine ps_ok ts ((top ++ [d]) :: rest) row ⟨okRow_snoc hs.1 a b ?_, hs.2⟩ (by simp) h
            have := hs.1.2.2
            rw [c]
            omega
theorem ps_open {st : List (List PyData)} {r : List (List Nat)} : ps st ([40] :: r) = if st.length = 12 then none else ps ([] :: st) r := by
  conv => lhs; unfold ps
  rw [if_pos rfl]
theorem ps_close1 {l : List PyData} {r : List (List Nat)} : ps [l] ([41] :: r) = none := by
  unfold ps
  rw [if_neg (by decide), if_pos rfl]
theorem ps_close {l k : List PyData} {st : List (List PyData)} {r : List (List Nat)} : ps (l :: k :: st) ([41] :: r) = ps ((k ++ [.tuple l]) :: st) r := by
  conv => lhs; unfold ps
  rw [if_neg (by decide), if_pos rfl]
theorem ps_word {l : List PyData} {st : List (List PyData)} {t : List Nat} {r : List (List Nat)} (h0 : t ≠ [40]) (h1 : t ≠ [41]) {d : PyData} (h : pw t = some d) : ps (l :: st) (t :: r) = ps ((l ++ [d]) :: st) r := by
  conv => lhs; unfold ps
  rw [if_neg h0, if_neg h1, h]
theorem ps_bad {st : List (List PyData)} {t : List Nat} {r : List (List Nat)} (h0 : t ≠ [40]) (h1 : t ≠ [41]) (h : pw t = none) : ps st (t :: r) = none := by
  conv => lhs; unfold ps
  rw [if_neg h0, if_neg h1, h]
/-! ### open rows in the heap: as and st from the top on -/
def Stk (H : Hp) : List Addr → List (List PyData) → Prop
  | [], [] => True
  | a :: as, l :: st => a ∉ as ∧ (∃ xs, H a = some (.lst xs) ∧ DtAll H xs l) ∧ fzAll l = true ∧ Stk H as st
  | _, _ => False
theorem Stk.len {H : Hp} : ∀ {as : List Addr} {st : List (List PyData)}, Stk H as st → as.length = st.length
  | [], [], _ => rfl
  | _ :: _, _ :: _, h => by
    rw [List.length_cons, List.length_cons, Stk.len h.2.2.2]
  | [], _ :: _, h => h.elim
  | _ :: _, [], h => h.elim
theorem Stk.at {H : Hp} : ∀ {as : List Addr} {st : List (List PyData)}, Stk H as st → ∀ a ∈ as, ∃ xs, H a = some (.lst xs)
  | [], _, _, a, h => by cases h
  | b :: as, l :: st, h, a, ha => by
    rcases List.mem_cons.mp ha with ha | ha
    · subst ha
      obtain ⟨xs, e, _⟩ := h.2.1
      exact ⟨xs, e⟩
    · exact Stk.at h.2.2.2 a ha
  | _ :: _, [], h, _, _ => h.elim
theorem Stk.step {H H' : Hp} (t : Ts H H') : ∀ {as : List Addr} {st : List (List PyData)}, (∀ a ∈ as, ∀ o, H a = some o → H' a = some o) → Stk H as st → Stk H' as st
  | [], [], _, _ => trivial
  | a :: as, l :: st, k, h => by
    obtain ⟨h1, ⟨xs, h2, h3⟩, h4, h5⟩ := h
    exact ⟨h1, ⟨xs, k a List.mem_cons_self _ h2, h3.ts t _ _ h4⟩, h4, Stk.step t (fun b hb => k b (List.mem_cons_of_mem _ hb)) h5⟩
  | [], _ :: _, _, h => h.elim
  | _ :: _, [], _, h => h.elim
theorem Stk.push {H : Hp} {as : List Addr} {st : List (List PyData)} {p : Addr} (h : Stk H as st) (n : H p = none) : Stk (upd H p (.lst [])) (p :: as) ([] :: st) := by
  refine ⟨fun z => ?_, ⟨[], upd_same, da_nil⟩, rfl, h.step (Ts.of (same_new n)) fun a _ o e => same_new n _ _ e⟩
  obtain ⟨xs, e⟩ := h.at p z
  rw [n] at e
  cases e
theorem Stk.snoc {H : Hp} {a : Addr} {as : List Addr} {l : List PyData} {st : List (List PyData)} {x : V} {d : PyData} {xs : List V} (h : Stk H (a :: as) (l :: st)) (ha : H a = some (.lst xs)) (hx : Dt H x d) (hf : fz d = true) :
    Stk (upd H a (.lst (xs ++ [x]))) (a :: as) ((l ++ [d]) :: st) := by
  obtain ⟨h1, ⟨ys, h2, h3⟩, h4, h5⟩ := h
  rw [ha] at h2
  cases h2
  have t : Ts H (upd H a (.lst (xs ++ [x]))) := Ts.upd ha
  refine ⟨h1, ⟨xs ++ [x], upd_same, da_app (h3.ts t _ _ h4) (da_cons (hx.ts t _ _ hf) da_nil)⟩, fzAll_app h4 ?_, h5.step t fun b hb o e => ?_⟩
  · unfold fzAll
    rw [hf]
    rfl
  · rw [upd_ne (fun z : b = a => h1 (by rw [← z]; exact hb))]
    exact e
end PT
set_option Elab.async false
set_option linter.all false
set_option maxRecDepth 100000
/-! K66P3: lines of a text, one by one. -/
namespace PT
open PySem PySem.Spec PyProof.Rows L2 TL LW
theorem spl1_len {s : Nat} : ∀ (l w : List Nat), (spl [s] 0 w l).length ≤ l.length + 1 ∧ ∀ p ∈ spl [s] 0 w l, p.length ≤ w.length + l.length
  | [], w => by
    rw [spl_nil]
    refine ⟨Nat.le_refl _, fun p hp => ?_⟩
    rw [List.mem_singleton] at hp
    rw [hp]
    exact Nat.le_refl _
  | c :: r, w => by
    by_cases h : c = s
    · subst h
      obtain ⟨a, b⟩ := spl1_len (s := c) r []
      have e : spl [c] 0 w (c :: r) = w :: spl [c] 0 [] r := spl_hit (S := [c]) (by unfold pre; simp)
      rw [e, List.length_cons, List.length_cons]
      refine ⟨by omega, fun p hp => ?_⟩
      rcases List.mem_cons.mp hp with hp | hp
      · rw [hp]
        omega
      · have := b p hp
        rw [List.length_nil] at this
        omega
    · obtain ⟨a, b⟩ := spl1_len (s := s) r (w ++ [c])
      have e : spl [s] 0 w (c :: r) = spl [s] 0 (w ++ [c]) r := spl_miss (pre_of_head [] r h)
      rw [e, List.length_cons]
      refine ⟨by omega, fun p hp => ?_⟩
      have := b p hp
      rw [List.length_append, List.length_singleton] at this
      omega
theorem nl_split (x : Str) : Txt.split x (Str.ofString "\n") = (spl [10] 0 [] (tl x)).map str := by
  have e := SX.split_S (a := tl x) (b := [10]) (by simp) (by decide)
  rw [show Str.ofString "\n" = SX.S [10] from ext_tl (by decide +kernel)]
  exact e
theorem rd_bad : ∀ {ls : List (List Nat)} {j n : Nat} {rows : List (List PyData)} {l : List Nat}, rows.map some = (ls.take j).map readL → ls[j]? = some l → readL l = none → rd ls n = .inl (n + j)
  | [], _, _, _, _, _, h, _ => by simp at h
  | k :: ls, 0, n, rows, l, _, h, e => by
    simp at h
    subst h
    unfold rd
    rw [e]
    rfl
  | k :: ls, j + 1, n, rows, l, hr, h, e => by
    rw [List.take_succ_cons, List.map_cons] at hr
    cases rows with
    | nil => cases hr
    | cons r rows =>
      rw [List.map_cons] at hr
      have h1 : readL k = some r := (List.cons.inj hr).1.symm
      have ih := rd_bad (n := n + 1) (List.cons.inj hr).2 (by simpa using h) e
      unfold rd
      rw [h1]
      show (match rd ls (n + 1) with | .inl k => _ | .inr rows => _) = _
      rw [ih]
      show Sum.inl (n + 1 + j) = Sum.inl (n + (j + 1))
      congr 1
      omega
theorem rd_good : ∀ {ls : List (List Nat)} {n : Nat} {rows : List (List PyData)}, rows.map some = ls.map readL → rd ls n = .inr rows
  | [], n, rows, h => by
    have : rows = [] := by simpa using h
    rw [this]
    rfl
  | k :: ls, n, rows, h => by
    cases rows with
    | nil => cases h
    | cons r rows =>
      rw [List.map_cons, List.map_cons] at h
      have h1 : readL k = some r := (List.cons.inj h).1.symm
      have ih := rd_good (n := n + 1) (List.cons.inj h).2
      unfold rd
      rw [h1]
      show (match rd ls (n + 1) with | .inl k => _ | .inr rows => _) = _
      rw [ih]
theorem readL_ok {l : List Nat} {row : List PyData} (h : readL l = some row) : OkRow row 0 := by
  unfold readL at h
  split at h
  · exact ps_ok _ [[]] row ⟨⟨rfl, by unfold WmAll; trivial, by decide⟩, trivial⟩ (by simp) h
  · cases h
theorem rows_fz {rows : List (List PyData)} (h : ∀ r ∈ rows, OkRow r 0) : fzAll (rows.map .tuple) = true := fzAll_iff.mpr fun d hd => by
  obtain ⟨r, hr, rfl⟩ := List.mem_map.mp hd
  unfold fz
  exact (h r hr).1
theorem rows_ok {rows : List (List PyData)} {ls : List (List Nat)} (h : rows.map some = ls.map readL) : ∀ r ∈ rows, OkRow r 0 := fun r hr => by
  have : some r ∈ rows.map some := List.mem_map_of_mem hr
  rw [h] at this
  obtain ⟨l, _, e⟩ := List.mem_map.mp this
  exact readL_ok e
end PT
set_option Elab.async false
set_option linter.all false
set_option maxRecDepth 100000
/-! K66P4: drawn papers: how long they are, how deep. -/
namespace PT
open PySem PySem.Spec PyProof.Rows L2 TL LW
mutual
theorem rm_fz : ∀ d, Rm d → fz d = true
  | .tuple ds, h => by
    unfold Rm at h
    unfold fz
    exact rmAll_fz ds h
  | .none, _ => rfl
  | .int _, _ => rfl
  | .str _, _ => rfl
  | .bool _, _ => rfl
  | .list _, h => by unfold Rm at h; exact h.elim
  | .dict _, h => by unfold Rm at h; exact h.elim
theorem rmAll_fz : ∀ ds, RmAll ds → fzAll ds = true
  | [], _ => rfl
  | d :: ds, h => by
    unfold RmAll at h
    unfold fzAll
    rw [rm_fz d h.1, rmAll_fz ds h.2]
    rfl
end
mutual
theorem rm_wm : ∀ d, Rm d → Wm d
  | .tuple ds, h => by
    unfold Rm at h
    unfold Wm
    exact rmAll_wm ds h
  | .none, _ => by unfold Wm; trivial
  | .int _, h => by
    unfold Rm at h
    unfold Wm
    exact Nat.lt_of_lt_of_le h (Nat.pow_le_pow_right (by decide) (by decide))
  | .str _, _ => by unfold Wm; trivial
  | .bool _, h => by unfold Rm at h; exact h.elim
  | .list _, h => by unfold Rm at h; exact h.elim
  | .dict _, h => by unfold Rm at h; exact h.elim
theorem rmAll_wm : ∀ ds, RmAll ds → WmAll ds
  | [], _ => by unfold WmAll; trivial
  | d :: ds, h => by
    unfold RmAll at h
    unfold WmAll
    exact ⟨rm_wm d h.1, rmAll_wm ds h.2⟩
end
theorem rmAll_iff : ∀ {ds : List PyData}, RmAll ds ↔ ∀ d ∈ ds, Rm d
  | [] => ⟨fun _ d h => (by cases h), fun _ => by unfold RmAll; trivial⟩
  | d :: ds => by
    unfold RmAll
    rw [rmAll_iff (ds := ds)]
    constructor
    · rintro ⟨a, b⟩ x hx
      rcases List.mem_cons.mp hx with hx | hx
      · rw [hx]
        exact a
      · exact b x hx
    · intro h
      exact ⟨h d List.mem_cons_self, fun x hx => h x (List.mem_cons_of_mem _ hx)⟩
theorem depAll_le : ∀ {ds : List PyData} {n : Nat}, (∀ d ∈ ds, dep d ≤ n) → depAll ds ≤ n
  | [], _, _ => Nat.zero_le _
  | d :: ds, n, h => by
    have a := h d List.mem_cons_self
    have b := depAll_le fun x hx => h x (List.mem_cons_of_mem _ hx)
    show max (dep d) (depAll ds) ≤ n
    omega
theorem wrAll_mem : ∀ {ds : List PyData} {w : List Nat}, w ∈ wrAll ds → ∃ d ∈ ds, w = wr d
  | [], w, h => by
    unfold wrAll at h
    cases h
  | d :: ds, w, h => by
    unfold wrAll at h
    rcases List.mem_cons.mp h with h | h
    · exact ⟨d, List.mem_cons_self, h⟩
    · obtain ⟨e, he, k⟩ := wrAll_mem h
      exact ⟨e, List.mem_cons_of_mem _ he, k⟩
theorem joinL_le {S : List Nat} {b : Nat} : ∀ (ws : List (List Nat)), (∀ w ∈ ws, w.length ≤ b) → (joinL S ws).length ≤ ws.length * (b + S.length)
  | [], _ => Nat.zero_le _
  | [w], h => by
    have := h w List.mem_cons_self
    show w.length ≤ 1 * (b + S.length)
    omega
  | w :: v :: ws, h => by
    have a := h w List.mem_cons_self
    have k := joinL_le (S := S) (v :: ws) fun x hx => h x (List.mem_cons_of_mem _ hx)
    show (w ++ (S ++ joinL S (v :: ws))).length ≤ ((v :: ws).length + 1) * (b + S.length)
    rw [List.length_append, List.length_append, Nat.add_mul, Nat.one_mul]
    omega
/-! ### members by room -/
def mb : Nat → Nat
  | 0 => 33
  | 1 => 104
  | 2 => 317
  | 3 => 638
  | _ => 1280
def Mem (d : PyData) (r : Nat) : Prop := Rm d ∧ dep d ≤ r ∧ (wr d).length ≤ mb r
theorem mb_33 (r : Nat) : 33 ≤ mb r := by
  match r with
  | 0 => decide
  | 1 => decide
  | 2 => decide
  | 3 => decide
  | n + 4 => show 33 ≤ 1280; decide
theorem mem_leaf {d : PyData} {r : Nat} (h : Rm d) (hd : dep d = 0) (hl : (wr d).length ≤ 33) : Mem d r := ⟨h, by omega, Nat.le_trans hl (mb_33 r)⟩
theorem mem_none (r : Nat) : Mem .none r := mem_leaf (by unfold Rm; trivial) rfl (by unfold wr; decide)
theorem mem_str {x : Str} {r : Nat} (h : isWord (tl x) = true) (hl : x.length ≤ 33) : Mem (.str x) r := mem_leaf (by unfold Rm; exact h) rfl (by
  unfold wr
  rw [← len_tl]
  exact hl)
theorem wr_int_len {i : Int} {k : Nat} (hk : 0 < k) (h : i.natAbs < 10 ^ k) : (wr (.int i)).length ≤ k + 1 := by
  rcases Int.lt_or_le i 0 with hi | hi
  · obtain ⟨n, rfl, hn⟩ : ∃ n : Nat, i = -((n : Nat) : Int) ∧ 0 < n := ⟨i.natAbs, by omega, by omega⟩
    have e : wr (.int (-((n : Nat) : Int))) = 45 :: numL n := by
      unfold wr
      exact wr_neg hn
    rw [Int.natAbs_neg, Int.natAbs_natCast] at h
    rw [e, List.length_cons]
    have := numL_len hk h
    omega
  · obtain ⟨n, rfl⟩ : ∃ n : Nat, i = ((n : Nat) : Int) := ⟨i.toNat, by omega⟩
    have e : wr (.int ((n : Nat) : Int)) = numL n := by
      unfold wr
      exact wr_nat n
    rw [Int.natAbs_natCast] at h
    rw [e]
    have := numL_len hk h
    omega
theorem rm_int {i : Int} {k : Nat} (hk : k ≤ 1000) (h : i.natAbs < 10 ^ k) : Rm (.int i) := by
  unfold Rm
  exact Nat.lt_of_lt_of_le h (Nat.pow_le_pow_right (by decide) hk)
theorem mem_int {i : Int} {r : Nat} (h : i.natAbs < 10 ^ 31) : Mem (.int i) r := mem_leaf (rm_int (by decide) h) rfl (Nat.le_trans (wr_int_len (by decide) h) (by decide))
theorem all_len {ds : List PyData} {b : Nat} (h : ∀ d ∈ ds, (wr d).length ≤ b) : (joinL [32] (wrAll ds)).length ≤ ds.length * (b + 1) := by
  have k := joinL_le (S := [32]) (b := b) (wrAll ds) fun w hw => by
    obtain ⟨d, hd, rfl⟩ := wrAll_mem hw
    exact h d hd
  rw [wrAll_len] at k
  exact k
theorem mem_tuple {ds : List PyData} {r m : Nat} (h : ∀ d ∈ ds, Mem d r) (hl : ds.length ≤ m) (hr : r ≤ 3) (hm : m ≤ 2 ∨ (m ≤ 3 ∧ r ≤ 1)) : Mem (.tuple ds) (r + 1) := by
  refine ⟨?_, ?_, ?_⟩
  · unfold Rm
    exact rmAll_iff.mpr fun d hd => (h d hd).1
  · have := depAll_le fun d hd => (h d hd).2.1
    show depAll ds + 1 ≤ r + 1
    omega
  · have k := all_len fun d hd => (h d hd).2.2
    unfold wr
    rw [List.length_cons, List.length_append, List.length_singleton]
    have k2 : ds.length * (mb r + 1) ≤ m * (mb r + 1) := Nat.mul_le_mul_right _ hl
    rcases hm with hm | ⟨hm, hr2⟩
    · have k3 : m * (mb r + 1) ≤ 2 * (mb r + 1) := Nat.mul_le_mul_right _ hm
      have k4 : 2 * (mb r + 1) + 2 ≤ mb (r + 1) := by
        match r, hr with
        | 0, _ => decide
        | 1, _ => decide
        | 2, _ => decide
        | 3, _ => decide
      omega
    · have k3 : m * (mb r + 1) ≤ 3 * (mb r + 1) := Nat.mul_le_mul_right _ hm
      have k4 : 3 * (mb r + 1) + 2 ≤ mb (r + 1) := by
        match r, hr2 with
        | 0, _ => decide
        | 1, _ => decide
      omega
/-! ### rows -/
def psz (rows : List (List PyData)) : Nat := (rows.map fun r => (line r).length + 1).sum
theorem psz_snoc (rows : List (List PyData)) (r : List PyData) : psz (rows ++ [r]) = psz rows + ((line r).length + 1) := by
  unfold psz
  rw [List.map_append, List.sum_append]
  simp
theorem joinL_sumLe {S : List Nat} : ∀ (ws : List (List Nat)), (joinL S ws).length ≤ (ws.map fun w => w.length + S.length).sum
  | [] => Nat.zero_le _
  | [w] => by
    show w.length ≤ w.length + S.length + 0
    omega
  | w :: v :: ws => by
    have k := joinL_sumLe (S := S) (v :: ws)
    show (w ++ (S ++ joinL S (v :: ws))).length ≤ w.length + S.length + ((v :: ws).map fun w => w.length + S.length).sum
    rw [List.length_append, List.length_append]
    omega
theorem paper_len (rows : List (List PyData)) : (paper rows).length ≤ psz rows := by
  unfold paper psz
  have k := joinL_sumLe (S := [10]) (rows.map line)
  rw [List.map_map] at k
  exact k
theorem row_drawn {ds : List PyData} (h : ∀ d ∈ ds, Mem d 4) (h0 : 0 < ds.length) (h4 : ds.length ≤ 4) : RmRow ds ∧ (line ds).length ≤ 5124 := by
  refine ⟨⟨rmAll_iff.mpr fun d hd => (h d hd).1, fun z => ?_, ?_⟩, ?_⟩
  · rw [z] at h0
    cases h0
  · have := depAll_le fun d hd => (h d hd).2.1
    omega
  · have k := all_len fun d hd => (h d hd).2.2
    have k2 : ds.length * (mb 4 + 1) ≤ 4 * (mb 4 + 1) := Nat.mul_le_mul_right _ h4
    have k3 : 4 * (mb 4 + 1) = 5124 := by decide
    unfold line
    omega
theorem nest_snoc : ∀ (n : Nat) (d : PyData), nest d (n + 1) = .tuple [nest d n]
  | 0, _ => rfl
  | n + 1, d => nest_snoc n (.tuple [d])
theorem nest_rm {d : PyData} (h : Rm d) : ∀ n, Rm (nest d n)
  | 0 => h
  | n + 1 => by
    rw [nest_snoc]
    unfold Rm RmAll RmAll
    exact ⟨nest_rm h n, trivial⟩
theorem nest_dep {d : PyData} : ∀ n, dep (nest d n) = dep d + n
  | 0 => rfl
  | n + 1 => by
    rw [nest_snoc]
    have := nest_dep (d := d) n
    show max (dep (nest d n)) 0 + 1 = _
    omega
theorem nest_len {d : PyData} : ∀ n, (wr (nest d n)).length = (wr d).length + 2 * n
  | 0 => rfl
  | n + 1 => by
    rw [nest_snoc]
    have := nest_len (d := d) n
    have e : wr (.tuple [nest d n]) = 40 :: (wr (nest d n) ++ [41]) := rfl
    rw [e, List.length_cons, List.length_append, List.length_singleton]
    omega
theorem row_nest {d : PyData} {n : Nat} (h : Mem d 0) (hn : n ≤ 11) : RmRow [nest d n] ∧ (line [nest d n]).length ≤ 55 := by
  obtain ⟨h1, h2, h3⟩ := h
  have e : mb 0 = 33 := rfl
  refine ⟨⟨?_, by simp, ?_⟩, ?_⟩
  · unfold RmAll RmAll
    exact ⟨nest_rm h1 n, trivial⟩
  · have := nest_dep (d := d) n
    show max (dep (nest d n)) 0 ≤ 11
    omega
  · have := nest_len (d := d) n
    show (wr (nest d n)).length ≤ 55
    omega
theorem row_last {i : Int} (h : i.natAbs < 10 ^ 48) : RmRow [.int i, .tuple []] ∧ (line [.int i, .tuple []]).length ≤ 52 := by
  refine ⟨⟨?_, by simp, by show max 0 (max (0 + 1) 0) ≤ 11; decide⟩, ?_⟩
  · unfold RmAll RmAll RmAll
    refine ⟨rm_int (by decide) h, ?_, trivial⟩
    unfold Rm RmAll
    trivial
  · have k := wr_int_len (by decide) h
    have e : line [.int i, .tuple []] = wr (.int i) ++ [32, 40, 41] := by
      unfold line wrAll wrAll wrAll
      show wr (.int i) ++ ([32] ++ wr (.tuple [])) = _
      have : wr (.tuple []) = [40, 41] := by
        unfold wr wrAll
        rfl
      rw [this]
      rfl
    rw [e, List.length_append]
    show (wr (.int i)).length + 3 ≤ 52
    omega
/-- a row's text, its brackets cut off -/
theorem wr_row (row : List PyData) : wr (.tuple row) = 40 :: (line row ++ [41]) := by
  unfold wr line
  rfl
theorem cut_row (row : List PyData) : cutS (str (wr (.tuple row))) (some 1) (some (-1)) = str (line row) := by
  rw [wr_row]
  refine ext_tl ?_
  have hl : (str (40 :: (line row ++ [41]))).length = (line row).length + 2 := by
    rw [str_len, List.length_cons, List.length_append]
    rfl
  have e0 : tl (cutS (str (40 :: (line row ++ [41]))) (some 1) (some (-1))) = (((40 :: (line row ++ [41])).drop (HT.sIx (str (40 :: (line row ++ [41]))).length 0 (some ((1 : Nat) : Int)))).take
      (HT.sIx (str (40 :: (line row ++ [41]))).length (str (40 :: (line row ++ [41]))).length (some (-1)) - HT.sIx (str (40 :: (line row ++ [41]))).length 0 (some ((1 : Nat) : Int)))) := rfl
  rw [e0, hl, HT.sIx_nat]
  have e1 : HT.sIx ((line row).length + 2) ((line row).length + 2) (some (-1)) = (line row).length + 1 := by
    show (if (-1 : Int) < 0 then ((-1 : Int) + (((line row).length + 2 : Nat) : Int)).toNat else min (-1 : Int).toNat ((line row).length + 2)) = _
    rw [if_pos (by decide)]
    omega
  rw [e1, show min 1 ((line row).length + 2) = 1 from by omega]
  show ((line row ++ [41]).take ((line row).length + 1 - 1)) = line row
  rw [show (line row).length + 1 - 1 = (line row).length from by omega]
  simp
/-! ### words -/
theorem isWord_of {c : Nat} {t : List Nat} (hc : small c = true) (h : ∀ x ∈ t, small x = true ∨ fig x = true) : isWord (c :: t) = true := by
  unfold isWord
  rw [Bool.and_eq_true]
  refine ⟨hc, List.all_eq_true.mpr fun x hx => ?_⟩
  rw [Bool.or_eq_true]
  rcases List.mem_cons.mp hx with hx | hx
  · rw [hx]
    exact .inl hc
  · exact h x hx
theorem isWord_small {t : List Nat} (ne : t ≠ []) (h : ∀ c ∈ t, small c = true) : isWord t = true := by
  cases t with
  | nil => exact absurd rfl ne
  | cons c t => exact isWord_of (h c List.mem_cons_self) fun x hx => .inl (h x (List.mem_cons_of_mem _ hx))
theorem isWord_x {t : List Nat} (h : isWord t = true) : isWord (t ++ [120]) = true := by
  cases t with
  | nil => exact absurd rfl (isWord_signs h).1
  | cons c t =>
    unfold isWord at h
    rw [Bool.and_eq_true] at h
    refine isWord_of (t := t ++ [120]) h.1 fun x hx => ?_
    rcases List.mem_append.mp hx with hx | hx
    · have := List.all_eq_true.mp h.2 x (List.mem_cons_of_mem _ hx)
      rw [Bool.or_eq_true] at this
      exact this
    · rw [List.mem_singleton] at hx
      rw [hx]
      exact .inl (by decide)
theorem cut_mem {z : Str} {lo hi : Option Int} {c : Nat} (h : c ∈ tl (cutS z lo hi)) : c ∈ tl z := List.mem_of_mem_drop (List.mem_of_mem_take h)
theorem cut_len {z : Str} {lo hi : Option Int} : (cutS z lo hi).length ≤ z.length := by
  rw [len_tl, len_tl]
  show (((tl z).drop _).take _).length ≤ _
  rw [List.length_take, List.length_drop]
  omega
/-- ahead of a place and from a later one on -/
theorem cut_two {z : Str} {a b : Int} (h0 : 0 ≤ a) (h : a ≤ b) : (cutS z none (some a)).length + (cutS z (some b) none).length ≤ z.length := by
  obtain ⟨m, rfl⟩ : ∃ m : Nat, a = (m : Int) := ⟨a.toNat, by omega⟩
  obtain ⟨n, rfl⟩ : ∃ n : Nat, b = (n : Int) := ⟨b.toNat, by omega⟩
  rw [len_tl, len_tl (cutS z (some _) none), len_tl z]
  have e1 : tl (cutS z none (some (m : Int))) = ((tl z).drop (HT.sIx z.length 0 none)).take (HT.sIx z.length z.length (some (m : Int)) - HT.sIx z.length 0 none) := rfl
  have e2 : tl (cutS z (some (n : Int)) none) = ((tl z).drop (HT.sIx z.length 0 (some (n : Int)))).take (HT.sIx z.length z.length none - HT.sIx z.length 0 (some (n : Int))) := rfl
  rw [e1, e2, HT.sIx_nat, HT.sIx_nat, HT.sIx_none, HT.sIx_none, len_tl, List.length_take, List.length_take, List.length_drop, List.length_drop]
  omega
/-! ### a word, the law's way -/
theorem num_notWord {t : List Nat} (ne : figs t ≠ []) (h : (figs t).all fig = true) : isWord t = false := by
  cases t with
  | nil => exact absurd rfl ne
  | cons c r =>
    have hc : small c = false := by
      by_cases e : c = 45
      · rw [e]
        decide
      · have ef : figs (c :: r) = c :: r := (if_neg e : (if c = 45 then r else c :: r) = c :: r)
        rw [ef] at h
        have := fig_range (List.all_eq_true.mp h c List.mem_cons_self)
        unfold small
        have : ¬ 97 ≤ c := by omega
        simp [this]
    unfold isWord
    simp [hc]
theorem pw_dash : pw [45] = some .none := by
  unfold pw
  rw [if_pos rfl]
theorem pw_num {t : List Nat} (h0 : t ≠ [45]) (ne : figs t ≠ []) (h : (figs t).all fig = true) (hl : (figs t).length ≤ 1000) (hz : (figs t).head? ≠ some 48 ∨ t = [48]) : pw t = some (.int (numV t)) := by
  have k : isNum t = true := by
    unfold isNum
    simp only [Bool.and_eq_true, Bool.or_eq_true, decide_eq_true_eq]
    exact ⟨⟨⟨ne, hl⟩, h⟩, hz⟩
  unfold pw
  rw [if_neg h0, if_pos k]
theorem pw_numBad {t : List Nat} (h0 : t ≠ [45]) (ne : figs t ≠ []) (h : (figs t).all fig = true) (hb : ¬ ((figs t).length ≤ 1000 ∧ ((figs t).head? ≠ some 48 ∨ t = [48]))) : pw t = none := by
  have k : isNum t = false := by
    rw [Bool.eq_false_iff]
    intro z
    unfold isNum at z
    simp only [Bool.and_eq_true, Bool.or_eq_true, decide_eq_true_eq] at z
    exact hb ⟨z.1.1.2, z.2⟩
  unfold pw
  rw [if_neg h0, k, if_neg (by decide), num_notWord ne h, if_neg (by decide)]
theorem pw_text {t : List Nat} (h0 : t ≠ [45]) (hn : ¬ (figs t ≠ [] ∧ (figs t).all fig = true)) : pw t = if isWord t = true then some (.str (str t)) else none := by
  have k : isNum t = false := by
    rw [Bool.eq_false_iff]
    intro z
    have := isNum_parts z
    exact hn ⟨this.2.1, this.1⟩
  unfold pw
  rw [if_neg h0, k, if_neg (by decide)]
/-! ### data that == looks at -/
theorem lay_app : ∀ {a b : List PyData}, PyData.canLayAll0 a = true → PyData.canLayAll0 b = true → PyData.canLayAll0 (a ++ b) = true
  | [], _, _, h => h
  | x :: a, b, h1, h2 => by
    rw [List.cons_append]
    unfold PyData.canLayAll0 at h1 ⊢
    rw [Bool.and_eq_true] at h1 ⊢
    exact ⟨h1.1, lay_app h1.2 h2⟩
theorem pw_lay {t : List Nat} {d : PyData} (h : pw t = some d) : d.canLay0 = true := by
  unfold pw at h
  split at h
  · cases h
    unfold PyData.canLay0
    rfl
  · split at h
    · cases h
      unfold PyData.canLay0
      rfl
    · split at h
      · rename_i w
        cases h
        unfold PyData.canLay0 PyData.strOk
        have hs := (isWord_signs w).2
        rw [← Array.all_toList]
        refine List.all_eq_true.mpr fun c hc => ?_
        have := hs c hc
        exact decide_eq_true (by omega)
      · cases h
theorem ps_lay : ∀ (ts : List (List Nat)) (st : List (List PyData)) (row : List PyData), (∀ r ∈ st, PyData.canLayAll0 r = true) → ps st ts = some row → PyData.canLayAll0 row = true
  | [], st, row, hs, h => by
    unfold ps at h
    cases st with
    | nil => cases h
    | cons r rest =>
      cases rest with
      | nil =>
        cases h
        exact hs _ List.mem_cons_self
      | cons _ _ => cases h
  | t :: ts, st, row, hs, h => by
    unfold ps at h
    split at h
    · split at h
      · cases h
      · refine ps_lay ts ([] :: st) row (fun r hr => ?_) h
        rcases List.mem_cons.mp hr with hr | hr
        · rw [hr]
          unfold PyData.canLayAll0
          rfl
        · exact hs r hr
    · split at h
      · cases st with
        | nil => cases h
        | cons top st =>
          cases st with
          | nil => cases h
          | cons nxt rest =>
            have h1 := hs top List.mem_cons_self
            have h2 := hs nxt (List.mem_cons_of_mem _ List.mem_cons_self)
            refine ps_lay ts ((nxt ++ [.tuple top]) :: rest) row (fun r hr => ?_) h
            rcases List.mem_cons.mp hr with hr | hr
            · rw [hr]
              refine lay_app h2 ?_
              simp only [PyData.canLayAll0, PyData.canLay0, h1, Bool.and_true]
            · exact hs r (List.mem_cons_of_mem _ (List.mem_cons_of_mem _ hr))
      · cases hp : pw t with
        | none =>
          rw [hp] at h
          cases h
        | some d =>
          rw [hp] at h
          cases st with
          | nil => cases h
          | cons top rest =>
            refine ps_lay ts ((top ++ [d]) :: rest) row (fun r hr => ?_) h
            rcases List.mem_cons.mp hr with hr | hr
            · rw [hr]
              refine lay_app (hs _ List.mem_cons_self) ?_
              simp only [PyData.canLayAll0, pw_lay hp, Bool.and_true]
            · exact hs r (List.mem_cons_of_mem _ hr)
mutual
theorem dep_depth : ∀ d, Wm d → PyData.depth d ≤ dep d
  | .tuple ds, h => by
    unfold Wm at h
    unfold PyData.depth
    have := depAll_depth ds h
    show PyData.depthAll ds + 1 ≤ depAll ds + 1
    omega
  | .none, _ => by unfold PyData.depth; exact Nat.zero_le _
  | .int _, _ => by unfold PyData.depth; exact Nat.zero_le _
  | .str _, _ => by unfold PyData.depth; exact Nat.zero_le _
  | .bool _, h => by unfold Wm at h; exact h.elim
  | .list _, h => by unfold Wm at h; exact h.elim
  | .dict _, h => by unfold Wm at h; exact h.elim
theorem depAll_depth : ∀ ds, WmAll ds → PyData.depthAll ds ≤ depAll ds
  | [], _ => by unfold PyData.depthAll; exact Nat.zero_le _
  | d :: ds, h => by
    unfold WmAll at h
    unfold PyData.depthAll
    have a := dep_depth d h.1
    have b := depAll_depth ds h.2
    show max _ _ ≤ max (dep d) (depAll ds)
    omega
end
theorem row_shaped {row : List PyData} (h : OkRow row 0) (hl : PyData.canLayAll0 row = true) : SeqAt.shaped (.list row) = true := by
  unfold SeqAt.shaped
  rw [Bool.and_eq_true, decide_eq_true_eq]
  refine ⟨by unfold PyData.canLay0; exact hl, ?_⟩
  have a := depAll_depth row h.2.1
  have b := h.2.2
  unfold PyData.depth
  omega
theorem row_eqv (row : List PyData) : PyData.eqv (.list row) (.list []) = decide (row = []) := by
  cases row with
  | nil =>
    unfold PyData.eqv PyData.eqvAll
    rfl
  | cons d ds =>
    unfold PyData.eqv PyData.eqvAll
    rw [decide_eq_false (by simp)]
/-! ### what a text tells -/
def toldD : Sum Nat (List (List PyData)) → PyData
  | .inl n => .tuple [.str (Str.ofString "raised"), .int n]
  | .inr rows => .tuple [.str (Str.ofString "let"), .tuple (rows.map .tuple)]
theorem told_ok {x : List Nat} {rows : List (List PyData)} (h : told x = .inr rows) : ∀ r ∈ rows, OkRow r 0 := by
  have key : ∀ (ls : List (List Nat)) (n : Nat) (rows : List (List PyData)), rd ls n = .inr rows → ∀ r ∈ rows, OkRow r 0 := fun ls => by
    induction ls with
    | nil =>
      intro n rows h r hr
      unfold rd at h
      cases h
      cases hr
    | cons l ls ih =>
      intro n rows h r hr
      unfold rd at h
      cases e : readL l with
      | none =>
        rw [e] at h
        cases h
      | some row =>
        rw [e] at h
        have h : (match rd ls (n + 1) with | .inl k => Sum.inl k | .inr rows => Sum.inr (row :: rows)) = Sum.inr rows := h
        cases e2 : rd ls (n + 1) with
        | inl k =>
          rw [e2] at h
          cases h
        | inr rs =>
          rw [e2] at h
          cases h
          rcases List.mem_cons.mp hr with hr | hr
          · rw [hr]
            exact readL_ok e
          · exact ih _ _ e2 r hr
  unfold told at h
  split at h
  · cases h
    intro r hr
    cases hr
  · exact key _ _ _ h
theorem toldD_dep (x : List Nat) : dep (toldD (told x)) < 15 := by
  cases e : told x with
  | inl n =>
    show max 0 (max 0 0) + 1 < 15
    decide
  | inr rows =>
    have k : depAll (rows.map PyData.tuple) ≤ 12 := depAll_le fun d hd => by
      obtain ⟨r, hr, rfl⟩ := List.mem_map.mp hd
      have := (told_ok e r hr).2.2
      show depAll r + 1 ≤ 12
      omega
    show max 0 (max (depAll (rows.map PyData.tuple) + 1) 0) + 1 < 15
    omega
theorem toldD_fz (x : List Nat) : fz (toldD (told x)) = true := by
  cases e : told x with
  | inl n => rfl
  | inr rows =>
    show fzAll [PyData.str _, .tuple (rows.map .tuple)] = true
    simp only [fzAll, fz, rows_fz (told_ok e), Bool.and_true]
/-- how many signs a read row is written with -/
theorem read_len {l : List Nat} {row : List PyData} (h : ps [[]] (tk [] l) = some row) : (line row).length ≤ 2 * l.length := by
  obtain ⟨e, v⟩ := ps_sound (tk [] l) [[]] row (tk_all l [] (by simp)) ⟨by unfold VmAll; trivial, trivial⟩ (by simp) h
  have e : tk [] l = tmAll row := e
  have a := line_len (tk [] l)
  have b := tk_sum l []
  rw [List.length_nil, Nat.zero_add] at b
  have c : lineOf (tk [] l) = line row := by
    rw [e, line_row v]
    rfl
  rw [c] at a
  omega
end PT
set_option Elab.async false
set_option linter.all false
set_option maxRecDepth 100000
set_option maxHeartbeats 4000000
namespace K66W
open PySem PySem.Spec PyProof.Rows L2 TL LW
local macro_rules | `(tactic| walk_at "ne") => `(tactic| first
  | assumption
  | exact Ne.symm (by assumption)
  | exact ne_of_none (by assumption) (by assumption)
  | exact (ne_of_none (by assumption) (by assumption)).symm
  | (apply ne_of_none; (case h' => assumption); (case h => walk_at "hp"))
  | (apply Ne.symm; apply ne_of_none; (case h' => assumption); (case h => walk_at "hp")))
local macro_rules | `(tactic| walk_at "hp") => `(tactic| first
  | assumption
  | exact upd_same
  | exact hp_new (by assumption) (by assumption)
  | (apply hp_new; (case n => assumption); (case h => walk_at "hp"))
  | (refine (upd_ne ?ne).trans ?hp; (case ne => walk_at "ne"); (case hp => walk_at "hp")))
local macro_rules | `(tactic| walk_at "sq") => `(tactic| first
  | ((with_reducible show SqL _ _ _ _); assumption)
  | ((with_reducible show SqT _ _ _ _); assumption)
  | exact SqL.of (by assumption)
  | exact SqL.of upd_same
  | exact SqT.of (by assumption)
  | exact SqT.of upd_same
  | (apply SqL.of; walk_at "hp")
  | (apply SqT.of; walk_at "hp"))
local macro_rules | `(tactic| walk_at "len") => `(tactic| first
  | assumption
  | exact sz_small (by omega)
  | exact sz_less (by omega)
  | decide
  | (refine sz_small ?_; simp only [List.length_append, List.length_cons, List.length_nil, List.length_map, str_len]; omega)
  | (refine sz_less ?_; simp only [List.length_append, List.length_cons, List.length_nil, List.length_map, str_len]; omega))
local macro_rules | `(tactic| walk_at "cond") => `(tactic| first
  | omega
  | (split <;> omega)
  | assumption
  | exact .inl ⟨by omega, by omega⟩
  | exact .inr ⟨by omega, by omega⟩
  | exact ⟨by omega, by omega⟩
  | (show (0 : Int) < _; omega)
  | (show (0 : Int) < _; decide +kernel)
  | exact ⟨by omega, by omega, by decide⟩
  | walk_at "len"
  | rfl
  | (show CMulW _ _; unfold CMulW; decide +kernel)
  | exact ⟨_, rfl⟩
  | decide +kernel
  | exact ⟨_, by walk_at "sq"⟩
  | exact .inl ⟨rfl, _, by walk_at "sq"⟩)
local macro_rules | `(tactic| walk_at "at") => `(tactic| first
  | assumption
  | exact atI_nat (by assumption)
  | exact atI_last _ _
  | exact atI_nat (j := 0) rfl
  | exact atI_nat (j := 1) rfl
  | exact atI_nat (j := 2) rfl
  | exact atI_nat (j := 3) rfl
  | exact atI_nat (j := 4) rfl)
local macro_rules | `(tactic| walk_at "ix") => `(tactic| first
  | assumption
  | (with_reducible exact ixN_0 (by simp; done))
  | (with_reducible exact ixN_1 (by simp; done))
  | (with_reducible exact ixN_2 (by simp; done))
  | (with_reducible exact Evl.ixN_nat (by assumption))
  | (with_reducible exact Evl.ixN_nat (by omega)))
local macro_rules | `(tactic| walk_at "v") => `(tactic| first
  | exact val_var rfl
  | (with_reducible exact val_c)
  | (with_reducible apply val_orV; (case ha => walk_at "v"); (case hb => walk_at "v"))
  | (with_reducible apply val_andV; (case ha => walk_at "v"); (case hb => walk_at "v"))
  | (with_reducible apply val_notV; walk_at "v")
  | (with_reducible apply val_ifS; (case h => walk_at "w"); (case ha => walk_at "v"); (case hb => walk_at "v"))
  | (with_reducible apply val_ifI; (case h => walk_at "w"); (case ha => walk_at "v"); (case hb => walk_at "v"))
  | (with_reducible apply val_ifB; (case h => walk_at "w"); (case ha => walk_at "v"); (case hb => walk_at "v"))
  | (with_reducible apply val_eqS; (case ha => walk_at "v"); (case hb => walk_at "v"))
  | (with_reducible apply val_eqI; (case ha => walk_at "v"); (case hb => walk_at "v"))
  | (with_reducible apply val_neS; (case ha => walk_at "v"); (case hb => walk_at "v"))
  | (with_reducible apply val_neI; (case ha => walk_at "v"); (case hb => walk_at "v"))
  | (with_reducible apply val_op; (case ha => walk_at "v"); (case hb => walk_at "v"); (case hr => exact fun Q q => ⟨_, _, rfl, rfl, q⟩)))
local macro_rules | `(tactic| walk_at "w") => `(tactic| first
  | (with_reducible apply ans_or2; (case h1 => walk_at "w"); (case h2 => walk_at "w"))
  | (with_reducible apply ans_and2; (case h1 => walk_at "w"); (case h2 => walk_at "w"))
  | (with_reducible apply ans_not; walk_at "w")
  | (with_reducible apply ans_test; walk_at "v")
  | (with_reducible apply ans_val; walk_at "v"))
local macro_rules | `(tactic| walk_at "s1") => `(tactic| first
  | (with_reducible refine go_c ?_)
  | (with_reducible apply go_pick; (case hs => walk_at "hp"); (case h0 => walk_at "cond"); (case h1 => walk_at "cond"); (case' q => intro k a b c h0 h1))
  | (with_reducible refine go_nil ?_)
  | (with_reducible refine go_cons ?_)
  | (with_reducible refine go_call ?_)
  | (with_reducible refine go_cb ?_)
  | (with_reducible refine go_next ?_)
  | (with_reducible refine go_cont ?_)
  | (with_reducible refine go_ret ?_)
  | (with_reducible refine go_name ?_)
  | (with_reducible refine go_seq ?_)
  | (with_reducible refine go_asg ?_)
  | (with_reducible apply go_or; (case h => walk_at "v"))
  | (with_reducible apply go_and; (case h => walk_at "v"))
  | (with_reducible apply go_andL; (case h => walk_at "v"); (case' h1 => intro e); (case' h2 => intro e))
  | (with_reducible apply go_orL; (case h => walk_at "v"); (case' h1 => intro e); (case' h2 => intro e))
  | (with_reducible apply go_ifE; (case h => walk_at "v"))
  | (with_reducible apply go_ifOr; (case h => walk_at "w"); (case' h1 => intro e); (case' h2 => intro e))
  | (with_reducible apply go_ifAnd; (case h => walk_at "w"); (case' h1 => intro e); (case' h2 => intro e))
  | (with_reducible refine go_min ?_)
  | refine ⟨_, rfl, ?_⟩
  | refine ⟨_, _, rfl, rfl, ?_⟩
  | (refine And.intro ?cc ?_; (case cc => walk_at "cond"))
  | refine ⟨_, _, _, _, rfl, rfl, by walk_at "sq", by walk_at "at", ?_⟩
  | refine ⟨_, _, _, _, rfl, rfl, by walk_at "hp", by walk_at "ix", ?_⟩
  | refine ⟨_, _, _, _, rfl, rfl, by walk_at "hp", by walk_at "hp", by walk_at "len", ?_⟩
  | refine ⟨_, _, _, rfl, rfl, by walk_at "len", by walk_at "at", ?_⟩
  | refine ⟨_, _, _, rfl, rfl, by walk_at "hp", by walk_at "len", ?_⟩
  | refine ⟨_, _, _, rfl, rfl, by walk_at "hp", by walk_at "at", ?_⟩
  | refine ⟨_, _, rfl, rfl, by walk_at "sq", ?_⟩
  | refine ⟨_, _, rfl, rfl, by walk_at "len", ?_⟩
  | refine ⟨_, _, rfl, by walk_at "sq", ?_⟩
  | refine ⟨_, _, rfl, .inl (by walk_at "sq"), ?_⟩
  | refine ⟨_, _, rfl, .inr (by walk_at "sq"), ?_⟩
  | refine ⟨_, _, rfl, by walk_at "sq", rfl, ?_⟩
  | refine ⟨_, fun _ _ h => h, ?_⟩
  | refine ⟨_, _, rfl, ?_⟩
  | refine .inl ⟨_, rfl, ?_⟩
  | refine ⟨_, _, .type "int", .type _, true, rfl, ClsV.ty _, .base (.int _), kit_ty (by decide +kernel), ?_⟩
  | refine ⟨_, _, .type "int", .type _, false, rfl, ClsV.ty _, .base (.int _), kit_ty (by decide +kernel), ?_⟩
  | refine ⟨_, _, .type "bool", .type _, true, rfl, ClsV.ty _, .base (.bl _), kit_ty (by decide +kernel), ?_⟩
  | refine ⟨_, _, .type "bool", .type _, false, rfl, ClsV.ty _, .base (.bl _), kit_ty (by decide +kernel), ?_⟩
  | refine ⟨_, _, .type "str", .type _, true, rfl, ClsV.ty _, .base (.str _), kit_ty (by decide +kernel), ?_⟩
  | refine ⟨_, _, .type "str", .type _, false, rfl, ClsV.ty _, .base (.str _), kit_ty (by decide +kernel), ?_⟩
  | refine ⟨_, _, .type "NoneType", .type _, true, rfl, ClsV.ty _, .base (.non), kit_ty (by decide +kernel), ?_⟩
  | refine ⟨_, _, .type "NoneType", .type _, false, rfl, ClsV.ty _, .base (.non), kit_ty (by decide +kernel), ?_⟩
  | refine ⟨_, _, .type "list", .type _, true, rfl, ClsV.ty _, .base (.lst (by walk_at "hp")), kit_ty (by decide +kernel), ?_⟩
  | refine ⟨_, _, .type "list", .type _, false, rfl, ClsV.ty _, .base (.lst (by walk_at "hp")), kit_ty (by decide +kernel), ?_⟩
  | refine ⟨_, _, .type "tuple", .type _, true, rfl, ClsV.ty _, .base (.tup (by walk_at "hp")), kit_ty (by decide +kernel), ?_⟩
  | refine ⟨_, _, .type "tuple", .type _, false, rfl, ClsV.ty _, .base (.tup (by walk_at "hp")), kit_ty (by decide +kernel), ?_⟩
  | (refine fun (p : Addr) (hp : _ = none) => ?_)
  | refine iteT ?_
  | refine iteF ?_
  | refine iteD (fun _ => ?_) (fun e => absurd rfl e)
  | refine iteS (fun e => ?_) (fun e => ?_)
  | refine iteI (fun e => ?_) (fun e => ?_)
  | refine iteSn (fun e => ?_) (fun e => ?_)
  | refine iteIn (fun e => ?_) (fun e => ?_)
  | refine iteD (fun e => ?_) (fun e => ?_)
  | refine iteDn (fun e => ?_) (fun e => ?_)
  | refine ite2 (fun e => ?_) (fun e => ?_))
local macro_rules | `(tactic| walk_at "s") => `(tactic| repeat' (first
  | (with_reducible refine go_c ?_)
  | (with_reducible apply go_pick; (case hs => walk_at "hp"); (case h0 => walk_at "cond"); (case h1 => walk_at "cond"); (case' q => intro k a b c h0 h1))
  | (with_reducible refine go_nil ?_)
  | (with_reducible refine go_cons ?_)
  | (with_reducible refine go_call ?_)
  | (with_reducible refine go_cb ?_)
  | (with_reducible refine go_next ?_)
  | (with_reducible refine go_cont ?_)
  | (with_reducible refine go_ret ?_)
  | (with_reducible refine go_name ?_)
  | (with_reducible refine go_seq ?_)
  | (with_reducible refine go_asg ?_)
  | (with_reducible apply go_or; (case h => walk_at "v"))
  | (with_reducible apply go_and; (case h => walk_at "v"))
  | (with_reducible apply go_andL; (case h => walk_at "v"); (case' h1 => intro e); (case' h2 => intro e))
  | (with_reducible apply go_orL; (case h => walk_at "v"); (case' h1 => intro e); (case' h2 => intro e))
  | (with_reducible apply go_ifE; (case h => walk_at "v"))
  | (with_reducible apply go_ifOr; (case h => walk_at "w"); (case' h1 => intro e); (case' h2 => intro e))
  | (with_reducible apply go_ifAnd; (case h => walk_at "w"); (case' h1 => intro e); (case' h2 => intro e))
  | (with_reducible refine go_min ?_)
  | refine ⟨_, rfl, ?_⟩
  | refine ⟨_, _, rfl, rfl, ?_⟩
  | (refine And.intro ?cc ?_; (case cc => walk_at "cond"))
  | refine ⟨_, _, _, _, rfl, rfl, by walk_at "sq", by walk_at "at", ?_⟩
  | refine ⟨_, _, _, _, rfl, rfl, by walk_at "hp", by walk_at "ix", ?_⟩
  | refine ⟨_, _, _, _, rfl, rfl, by walk_at "hp", by walk_at "hp", by walk_at "len", ?_⟩
  | refine ⟨_, _, _, rfl, rfl, by walk_at "len", by walk_at "at", ?_⟩
  | refine ⟨_, _, _, rfl, rfl, by walk_at "hp", by walk_at "len", ?_⟩
  | refine ⟨_, _, _, rfl, rfl, by walk_at "hp", by walk_at "at", ?_⟩
  | refine ⟨_, _, rfl, rfl, by walk_at "sq", ?_⟩
  | refine ⟨_, _, rfl, rfl, by walk_at "len", ?_⟩
  | refine ⟨_, _, rfl, by walk_at "sq", ?_⟩
  | refine ⟨_, _, rfl, .inl (by walk_at "sq"), ?_⟩
  | refine ⟨_, _, rfl, .inr (by walk_at "sq"), ?_⟩
  | refine ⟨_, _, rfl, by walk_at "sq", rfl, ?_⟩
  | refine ⟨_, fun _ _ h => h, ?_⟩
  | refine ⟨_, _, rfl, ?_⟩
  | refine .inl ⟨_, rfl, ?_⟩
  | refine ⟨_, _, .type "int", .type _, true, rfl, ClsV.ty _, .base (.int _), kit_ty (by decide +kernel), ?_⟩
  | refine ⟨_, _, .type "int", .type _, false, rfl, ClsV.ty _, .base (.int _), kit_ty (by decide +kernel), ?_⟩
  | refine ⟨_, _, .type "bool", .type _, true, rfl, ClsV.ty _, .base (.bl _), kit_ty (by decide +kernel), ?_⟩
  | refine ⟨_, _, .type "bool", .type _, false, rfl, ClsV.ty _, .base (.bl _), kit_ty (by decide +kernel), ?_⟩
  | refine ⟨_, _, .type "str", .type _, true, rfl, ClsV.ty _, .base (.str _), kit_ty (by decide +kernel), ?_⟩
  | refine ⟨_, _, .type "str", .type _, false, rfl, ClsV.ty _, .base (.str _), kit_ty (by decide +kernel), ?_⟩
  | refine ⟨_, _, .type "NoneType", .type _, true, rfl, ClsV.ty _, .base (.non), kit_ty (by decide +kernel), ?_⟩
  | refine ⟨_, _, .type "NoneType", .type _, false, rfl, ClsV.ty _, .base (.non), kit_ty (by decide +kernel), ?_⟩
  | refine ⟨_, _, .type "list", .type _, true, rfl, ClsV.ty _, .base (.lst (by walk_at "hp")), kit_ty (by decide +kernel), ?_⟩
  | refine ⟨_, _, .type "list", .type _, false, rfl, ClsV.ty _, .base (.lst (by walk_at "hp")), kit_ty (by decide +kernel), ?_⟩
  | refine ⟨_, _, .type "tuple", .type _, true, rfl, ClsV.ty _, .base (.tup (by walk_at "hp")), kit_ty (by decide +kernel), ?_⟩
  | refine ⟨_, _, .type "tuple", .type _, false, rfl, ClsV.ty _, .base (.tup (by walk_at "hp")), kit_ty (by decide +kernel), ?_⟩
  | (refine fun (p : Addr) (hp : _ = none) => ?_)
  | refine iteT ?_
  | refine iteF ?_
  | refine iteD (fun _ => ?_) (fun e => absurd rfl e)
  | refine iteS (fun e => ?_) (fun e => ?_)
  | refine iteI (fun e => ?_) (fun e => ?_)
  | refine iteSn (fun e => ?_) (fun e => ?_)
  | refine iteIn (fun e => ?_) (fun e => ?_)
  | refine iteD (fun e => ?_) (fun e => ?_)
  | refine iteDn (fun e => ?_) (fun e => ?_)
  | refine ite2 (fun e => ?_) (fun e => ?_)))

def topS (i : Nat) : Stmt := PySem.Challenge.pw_tellsasleep_k66_papers_as_text.main.body.getD i (.Pass ⟨0, 0, 0, 0⟩)
abbrev s_BadLetter___init__ : Stmt := inClass (topS 2) 0
theorem sc_BadLetter___init__ : FnScope ["self", "line"] ["self", "line"] (defScope s_BadLetter___init__) := ⟨rfl, rfl, rfl, by decide +kernel, rfl, by decide +kernel, by decide +kernel⟩
abbrev s_paper_text : Stmt := topS 6
theorem sc_paper_text : FnScope ["paper", "row", "one"] ["paper"] (defScope s_paper_text) := ⟨rfl, rfl, rfl, by decide +kernel, rfl, by decide +kernel, by decide +kernel⟩
abbrev s_member_text : Stmt := topS 7
theorem sc_member_text : FnScope ["member", "one"] ["member"] (defScope s_member_text) := ⟨rfl, rfl, rfl, by decide +kernel, rfl, by decide +kernel, by decide +kernel⟩
abbrev s_is_word : Stmt := topS 8
theorem sc_is_word : FnScope ["word", "sign"] ["word"] (defScope s_is_word) := ⟨rfl, rfl, rfl, by decide +kernel, rfl, by decide +kernel, by decide +kernel⟩
abbrev s_is_number : Stmt := topS 9
theorem sc_is_number : FnScope ["word", "figures", "sign"] ["word"] (defScope s_is_number) := ⟨rfl, rfl, rfl, by decide +kernel, rfl, by decide +kernel, by decide +kernel⟩
abbrev s_line_tokens : Stmt := topS 10
theorem sc_line_tokens : FnScope ["line", "found", "word", "at", "sign"] ["line"] (defScope s_line_tokens) := ⟨rfl, rfl, rfl, by decide +kernel, rfl, by decide +kernel, by decide +kernel⟩
abbrev s_line_of : Stmt := topS 11
theorem sc_line_of : FnScope ["tokens", "line", "at"] ["tokens"] (defScope s_line_of) := ⟨rfl, rfl, rfl, by decide +kernel, rfl, by decide +kernel, by decide +kernel⟩
abbrev s_read_line : Stmt := topS 12
theorem sc_read_line : FnScope ["line", "number", "tokens", "open_rows", "token", "done"] ["line", "number"] (defScope s_read_line) := ⟨rfl, rfl, rfl, by decide +kernel, rfl, by decide +kernel, by decide +kernel⟩
abbrev s_read_word : Stmt := topS 13
theorem sc_read_word : FnScope ["word", "number"] ["word", "number"] (defScope s_read_word) := ⟨rfl, rfl, rfl, by decide +kernel, rfl, by decide +kernel, by decide +kernel⟩
abbrev s_paper_from : Stmt := topS 14
theorem sc_paper_from : FnScope ["text", "lines", "at"] ["text"] (defScope s_paper_from) := ⟨rfl, rfl, rfl, by decide +kernel, rfl, by decide +kernel, by decide +kernel⟩
abbrev s_law_source : Stmt := topS 16
theorem sc_law_source : FnScope ["script", "at", "limit", "cell", "cells", "state", "great"] ["script", "at"] (defScope s_law_source) := ⟨rfl, rfl, rfl, by decide +kernel, rfl, by decide +kernel, by decide +kernel⟩
abbrev s_law_pick : Stmt := topS 17
theorem sc_law_pick : FnScope ["source", "many", "found", "state"] ["source", "many"] (defScope s_law_pick) := ⟨rfl, rfl, rfl, by decide +kernel, rfl, by decide +kernel, by decide +kernel⟩
abbrev s_law_number : Stmt := topS 18
theorem sc_law_number : FnScope ["source", "limit", "found", "turn"] ["source", "limit"] (defScope s_law_number) := ⟨rfl, rfl, rfl, by decide +kernel, rfl, by decide +kernel, by decide +kernel⟩
abbrev s_law_shuffled : Stmt := topS 19
theorem sc_law_shuffled : FnScope ["source", "things", "left", "found"] ["source", "things"] (defScope s_law_shuffled) := ⟨rfl, rfl, rfl, by decide +kernel, rfl, by decide +kernel, by decide +kernel⟩
abbrev s_law_grammar : Stmt := topS 20
theorem sc_law_grammar : FnScope [] [] (defScope s_law_grammar) := ⟨rfl, rfl, rfl, by decide +kernel, rfl, by decide +kernel, by decide +kernel⟩
abbrev s_law_words : Stmt := topS 21
theorem sc_law_words : FnScope ["source", "many", "letters", "base", "turn", "found", "place", "k", "letter", "start", "taken", "word"] ["source", "many"] (defScope s_law_words) := ⟨rfl, rfl, rfl, by decide +kernel, rfl, by decide +kernel, by decide +kernel⟩
abbrev s_law_same : Stmt := topS 22
theorem sc_law_same : FnScope ["answer", "due", "key", "one", "other"] ["answer", "due"] (defScope s_law_same) := ⟨rfl, rfl, rfl, by decide +kernel, rfl, by decide +kernel, by decide +kernel⟩
abbrev s_law_member : Stmt := topS 23
theorem sc_law_member : FnScope ["source", "room", "sort", "number", "turn"] ["source", "room"] (defScope s_law_member) := ⟨rfl, rfl, rfl, by decide +kernel, rfl, by decide +kernel, by decide +kernel⟩
abbrev s_law_nest : Stmt := topS 24
theorem sc_law_nest : FnScope ["member", "many", "turn"] ["member", "many"] (defScope s_law_nest) := ⟨rfl, rfl, rfl, by decide +kernel, rfl, by decide +kernel, by decide +kernel⟩
abbrev s_law_written : Stmt := topS 25
theorem sc_law_written : FnScope ["member", "one"] ["member"] (defScope s_law_written) := ⟨rfl, rfl, rfl, by decide +kernel, rfl, by decide +kernel, by decide +kernel⟩
abbrev s_law_word : Stmt := topS 26
theorem sc_law_word : FnScope ["word", "figures", "good", "sign"] ["word"] (defScope s_law_word) := ⟨rfl, rfl, rfl, by decide +kernel, rfl, by decide +kernel, by decide +kernel⟩
abbrev s_law_line : Stmt := topS 27
theorem sc_law_line : FnScope ["line", "open_rows", "words", "word", "done", "good", "member", "row", "one"] ["line"] (defScope s_law_line) := ⟨rfl, rfl, rfl, by decide +kernel, rfl, by decide +kernel, by decide +kernel⟩
abbrev s_law_read : Stmt := topS 28
theorem sc_law_read : FnScope ["text", "rows", "at", "line"] ["text"] (defScope s_law_read) := ⟨rfl, rfl, rfl, by decide +kernel, rfl, by decide +kernel, by decide +kernel⟩
abbrev s_law_told : Stmt := topS 29
theorem sc_law_told : FnScope ["text", "told", "error"] ["text"] (defScope s_law_told) := ⟨rfl, rfl, rfl, by decide +kernel, rfl, by decide +kernel, by decide +kernel⟩
abbrev s_law_spoilt : Stmt := topS 30
theorem sc_law_spoilt : FnScope ["source", "text", "at", "sign"] ["source", "text"] (defScope s_law_spoilt) := ⟨rfl, rfl, rfl, by decide +kernel, rfl, by decide +kernel, by decide +kernel⟩
abbrev s_law : Stmt := topS 31
theorem sc_law : FnScope ["script", "source", "paper", "turn", "text", "due", "other", "many", "line", "long", "row", "k"] ["script"] (defScope s_law) := ⟨rfl, rfl, rfl, by decide +kernel, rfl, by decide +kernel, by decide +kernel⟩
structure Top (K : PySem.W.Frag) (mg : Str → Option Value) where
  C_SleepError : Addr
  m_SleepError : mg "SleepError" = some (.ref C_SleepError)
  B_SleepError : BaseC K C_SleepError
  C_BadLetter : Addr
  m_BadLetter : mg "BadLetter" = some (.ref C_BadLetter)
  E_BadLetter : ErrC K C_BadLetter "line"
  dig : PySem.W.nsIn K cStatics "sys.int_max_str_digits" = some none
  a_BadLetter___init__ : Addr
  d_BadLetter___init__ : FuncData
  F_BadLetter___init__ : Fun K "__init__" "BadLetter.__init__" s_BadLetter___init__ a_BadLetter___init__ d_BadLetter___init__
  b_BadLetter___init__ : Binds K d_BadLetter___init__ ["self", "line"] []
  i_BadLetter___init__ : PySem.W.findIn K (.ref C_BadLetter) "__init__" = some (some (.ref a_BadLetter___init__))
  t_BadLetter___init__ : PySem.W.typeIn K (.ref a_BadLetter___init__) = some (.type "function")
  a_paper_text : Addr
  d_paper_text : FuncData
  F_paper_text : Fun K "paper_text" "paper_text" s_paper_text a_paper_text d_paper_text
  b_paper_text : Binds K d_paper_text ["paper"] []
  m_paper_text : mg "paper_text" = some (.ref a_paper_text)
  a_member_text : Addr
  d_member_text : FuncData
  F_member_text : Fun K "member_text" "member_text" s_member_text a_member_text d_member_text
  b_member_text : Binds K d_member_text ["member"] []
  m_member_text : mg "member_text" = some (.ref a_member_text)
  a_is_word : Addr
  d_is_word : FuncData
  F_is_word : Fun K "is_word" "is_word" s_is_word a_is_word d_is_word
  b_is_word : Binds K d_is_word ["word"] []
  m_is_word : mg "is_word" = some (.ref a_is_word)
  a_is_number : Addr
  d_is_number : FuncData
  F_is_number : Fun K "is_number" "is_number" s_is_number a_is_number d_is_number
  b_is_number : Binds K d_is_number ["word"] []
  m_is_number : mg "is_number" = some (.ref a_is_number)
  a_line_tokens : Addr
  d_line_tokens : FuncData
  F_line_tokens : Fun K "line_tokens" "line_tokens" s_line_tokens a_line_tokens d_line_tokens
  b_line_tokens : Binds K d_line_tokens ["line"] []
  m_line_tokens : mg "line_tokens" = some (.ref a_line_tokens)
  a_line_of : Addr
  d_line_of : FuncData
  F_line_of : Fun K "line_of" "line_of" s_line_of a_line_of d_line_of
  b_line_of : Binds K d_line_of ["tokens"] []
  m_line_of : mg "line_of" = some (.ref a_line_of)
  a_read_line : Addr
  d_read_line : FuncData
  F_read_line : Fun K "read_line" "read_line" s_read_line a_read_line d_read_line
  b_read_line : Binds K d_read_line ["line", "number"] []
  m_read_line : mg "read_line" = some (.ref a_read_line)
  a_read_word : Addr
  d_read_word : FuncData
  F_read_word : Fun K "read_word" "read_word" s_read_word a_read_word d_read_word
  b_read_word : Binds K d_read_word ["word", "number"] []
  m_read_word : mg "read_word" = some (.ref a_read_word)
  a_paper_from : Addr
  d_paper_from : FuncData
  F_paper_from : Fun K "paper_from" "paper_from" s_paper_from a_paper_from d_paper_from
  b_paper_from : Binds K d_paper_from ["text"] []
  m_paper_from : mg "paper_from" = some (.ref a_paper_from)
  a_law_source : Addr
  d_law_source : FuncData
  F_law_source : Fun K "_law_source" "_law_source" s_law_source a_law_source d_law_source
  b_law_source : Binds K d_law_source ["script", "at"] []
  m_law_source : mg "_law_source" = some (.ref a_law_source)
  a_law_pick : Addr
  d_law_pick : FuncData
  F_law_pick : Fun K "_law_pick" "_law_pick" s_law_pick a_law_pick d_law_pick
  b_law_pick : Binds K d_law_pick ["source", "many"] []
  m_law_pick : mg "_law_pick" = some (.ref a_law_pick)
  a_law_number : Addr
  d_law_number : FuncData
  F_law_number : Fun K "_law_number" "_law_number" s_law_number a_law_number d_law_number
  b_law_number : Binds K d_law_number ["source", "limit"] []
  m_law_number : mg "_law_number" = some (.ref a_law_number)
  a_law_shuffled : Addr
  d_law_shuffled : FuncData
  F_law_shuffled : Fun K "_law_shuffled" "_law_shuffled" s_law_shuffled a_law_shuffled d_law_shuffled
  b_law_shuffled : Binds K d_law_shuffled ["source", "things"] []
  m_law_shuffled : mg "_law_shuffled" = some (.ref a_law_shuffled)
  a_law_grammar : Addr
  d_law_grammar : FuncData
  F_law_grammar : Fun K "_law_grammar" "_law_grammar" s_law_grammar a_law_grammar d_law_grammar
  b_law_grammar : Binds K d_law_grammar [] []
  m_law_grammar : mg "_law_grammar" = some (.ref a_law_grammar)
  a_law_words : Addr
  d_law_words : FuncData
  F_law_words : Fun K "_law_words" "_law_words" s_law_words a_law_words d_law_words
  b_law_words : Binds K d_law_words ["source", "many"] []
  m_law_words : mg "_law_words" = some (.ref a_law_words)
  a_law_same : Addr
  d_law_same : FuncData
  F_law_same : Fun K "_law_same" "_law_same" s_law_same a_law_same d_law_same
  b_law_same : Binds K d_law_same ["answer", "due"] []
  m_law_same : mg "_law_same" = some (.ref a_law_same)
  a_law_member : Addr
  d_law_member : FuncData
  F_law_member : Fun K "_law_member" "_law_member" s_law_member a_law_member d_law_member
  b_law_member : Binds K d_law_member ["source", "room"] []
  m_law_member : mg "_law_member" = some (.ref a_law_member)
  a_law_nest : Addr
  d_law_nest : FuncData
  F_law_nest : Fun K "_law_nest" "_law_nest" s_law_nest a_law_nest d_law_nest
  b_law_nest : Binds K d_law_nest ["member", "many"] []
  m_law_nest : mg "_law_nest" = some (.ref a_law_nest)
  a_law_written : Addr
  d_law_written : FuncData
  F_law_written : Fun K "_law_written" "_law_written" s_law_written a_law_written d_law_written
  b_law_written : Binds K d_law_written ["member"] []
  m_law_written : mg "_law_written" = some (.ref a_law_written)
  a_law_word : Addr
  d_law_word : FuncData
  F_law_word : Fun K "_law_word" "_law_word" s_law_word a_law_word d_law_word
  b_law_word : Binds K d_law_word ["word"] []
  m_law_word : mg "_law_word" = some (.ref a_law_word)
  a_law_line : Addr
  d_law_line : FuncData
  F_law_line : Fun K "_law_line" "_law_line" s_law_line a_law_line d_law_line
  b_law_line : Binds K d_law_line ["line"] []
  m_law_line : mg "_law_line" = some (.ref a_law_line)
  a_law_read : Addr
  d_law_read : FuncData
  F_law_read : Fun K "_law_read" "_law_read" s_law_read a_law_read d_law_read
  b_law_read : Binds K d_law_read ["text"] []
  m_law_read : mg "_law_read" = some (.ref a_law_read)
  a_law_told : Addr
  d_law_told : FuncData
  F_law_told : Fun K "_law_told" "_law_told" s_law_told a_law_told d_law_told
  b_law_told : Binds K d_law_told ["text"] []
  m_law_told : mg "_law_told" = some (.ref a_law_told)
  a_law_spoilt : Addr
  d_law_spoilt : FuncData
  F_law_spoilt : Fun K "_law_spoilt" "_law_spoilt" s_law_spoilt a_law_spoilt d_law_spoilt
  b_law_spoilt : Binds K d_law_spoilt ["source", "text"] []
  m_law_spoilt : mg "_law_spoilt" = some (.ref a_law_spoilt)
  a_law : Addr
  d_law : FuncData
  F_law : Fun K "law" "law" s_law a_law d_law
  b_law : Binds K d_law ["script"] []
  m_law : mg "law" = some (.ref a_law)
  bt_law : ∀ (s : Shared) (v : Value), BindsTo s d_law ⟨[v], []⟩ [("script", v)]
  t_SMALL : Tok
  m_SMALL : mg "SMALL" = some (Value.str (Str.ofString "abcdefghijklmnopqrstuvwxyz") t_SMALL)
  t_FIGURES : Tok
  m_FIGURES : mg "FIGURES" = some (Value.str (Str.ofString "0123456789") t_FIGURES)
  m_all : mg "all" = none
  m_bool : mg "bool" = none
  m_dict : mg "dict" = none
  m_int : mg "int" = none
  m_isinstance : mg "isinstance" = none
  m_len : mg "len" = none
  m_list : mg "list" = none
  m_min : mg "min" = none
  m_range : mg "range" = none
  m_str : mg "str" = none
  m_tuple : mg "tuple" = none
  m_zip : mg "zip" = none
section
variable {P : Program} {w : World} {K : PySem.W.Frag} {mg : Str → Option Value} {base : Heap}
/-! ### a number from 0 to many - 1; the source may turn -/
def spPick : Sp := fun vs H Q _ => ∃ (s : Addr) (a b c many : Int), vs = [.ref s, .int many] ∧ H s = some (.lst [.int a, .int b, .int c]) ∧ 0 < many ∧ many < 1073741824 ∧
  ∀ k a' b' c' : Int, 0 ≤ k → k < many → Q (.int k) (upd H s (.lst [.int a', .int b', .int c']))
theorem go_pick {s : Addr} {a b c many : Int} {H : Hp} {Q : VK} {E : XK} (hs : H s = some (.lst [.int a, .int b, .int c])) (h0 : 0 < many) (h1 : many < 1073741824)
    (q : ∀ k a' b' c' : Int, 0 ≤ k → k < many → Q (.int k) (upd H s (.lst [.int a', .int b', .int c']))) : spPick ([.ref s, .int many] ++ []) H Q E := ⟨s, a, b, c, many, rfl, hs, h0, h1, q⟩
theorem ok_pick (T : Top K mg) : FnOk P w K mg base CX0 1 T.a_law_pick T.d_law_pick ["source", "many"] spPick := by
  refine T.F_law_pick.ok sc_law_pick (fun vs H Q E h => ?_) (fun cdv A outer s H vs Q E hr h => ?_)
  · obtain ⟨s, a, b, c, m, rfl, _⟩ := h
    rfl
  · obtain ⟨s, a, b, c, m, rfl, hs, m0, m1, q⟩ := h
    refine ⟨_, (pss_cons (ps_if (pt_cmpR op_gt (pe_ix ix_list (pv 0) pe_int (fun _ _ => rfl)) pe_int (nomark _))
    (pss_cons (ps_set (i := 2) sc_law_pick.nd rfl (.inl rfl) (pe_op op_mod (pe_ix ix_list (pv 0) pe_int (fun _ _ => rfl)) (pv 1)))
    (pss_cons (ps_asg (pe_op op_fdiv (pe_ix ix_list (pv 0) pe_int (fun _ _ => rfl)) (pv 1)) (pg_sub (pv 0) pe_int set_list))
    (pss_one (ps_ret (pv 2)))))
    pss_nil)
    (pss_cons (ps_asg (pe_op op_add (pe_ix ix_list (pv 0) pe_int (fun _ _ => rfl)) pe_int) (pg_sub (pv 0) pe_int set_list))
    (pss_cons (ps_set (i := 3) sc_law_pick.nd rfl (.inl rfl) (pe_op op_mod (pe_op op_add (pe_op op_add (pe_op op_mul (pe_ix ix_list (pv 0) pe_int (fun _ _ => rfl)) pe_int) (pe_op op_mul (pe_ix ix_list (pv 0) pe_int (fun _ _ => rfl)) pe_int)) pe_int) pe_int))
    (pss_cons (ps_set (i := 3) sc_law_pick.nd rfl (.inl rfl) (pe_op op_mod (pe_op op_add (pe_op op_add (pe_op op_mul (pv 3) pe_int) (pe_op op_mul (pe_ix ix_list (pv 0) pe_int (fun _ _ => rfl)) pe_int)) pe_int) pe_int))
    (pss_cons (ps_asg (pv 3) (pg_sub (pv 0) pe_int set_list))
    (pss_one (ps_ret (pe_op op_mod (pe_op op_fdiv (pv 3) pe_int) (pv 1))))))))), ?_⟩
    walk_at "s"
    · exact q _ _ _ _ (Int.emod_nonneg _ (by omega)) (Int.emod_lt_of_pos _ m0)
    · rw [upd_upd]
      exact q _ _ _ _ (Int.emod_nonneg _ (by omega)) (Int.emod_lt_of_pos _ m0)
/-! ### the source of a script -/
def spSource (K : PySem.W.Frag) : Sp := fun vs H Q _ => ∃ (l : Addr) (ns : List Int) (n : Nat), vs = [.ref l, .int n] ∧ SqL K H l (ns.map V.int) ∧ ns.length ≤ 63 ∧ n ≤ 1000 ∧
  ∀ (s : Addr) (a b c : Int) (H' : Hp), Same H H' → H s = none → H' s = some (.lst [.int a, .int b, .int c]) → Q (.ref s) H'
theorem ok_source (T : Top K mg) : FnOk P w K mg base CX0 1 T.a_law_source T.d_law_source ["script", "at"] (spSource K) := by
  refine T.F_law_source.ok sc_law_source (fun vs H Q E h => ?_) (fun cdv A outer s H vs Q E hr h => ?_)
  · obtain ⟨l, ns, n, rfl, _⟩ := h
    rfl
  · obtain ⟨l, ns, n, rfl, hl, hn, hb, q⟩ := h
    refine ⟨_, (pss_cons (ps_set (i := 2) sc_law_source.nd rfl (.inr rfl) (pe_op op_mulW (pe_op op_mulW (pe_op op_mulW (pe_op op_mulW (pe_op op_mulW (pe_op op_pow pe_int pe_int) (pe_op op_pow pe_int pe_int)) (pe_op op_pow pe_int pe_int)) (pe_op op_pow pe_int pe_int)) (pe_op op_pow pe_int pe_int)) (pe_op op_pow pe_int pe_int)))
    (pss_cons (ps_setLc (i := 4) (own := [("cell", 3)]) rfl sc_law_source.nd rfl rfl (sw_true rfl rfl rfl (by decide +kernel)) (pi_list (pe_slice sl_list (pv 0) po_none (po_some pe_int))) (blkOk_by (own := [("cell", 3)]) (N := ["script", "at", "limit", "cell", "cells", "state", "great"]) (sc := defScope s_law_source) (by decide +kernel)) (fun _ _ _ _ _ => (pg_name (i := 3) sc_law_source.nd rfl (.inl rfl))) (fun _ _ _ _ _ => pts_nil) (fun _ _ _ _ _ => (pe_op op_mod (pe_callTy call_int1 (by rfl) T.m_int (by decide +kernel) (pa_cons (pv 3) pa_nil)) (pv 2))))
    (pss_cons (ps_set (i := 5) sc_law_source.nd rfl (.inl rfl) (pe_op op_add pe_int (pe_op op_mul (pv 1) pe_int)))
    (pss_cons (ps_for PassesOwn.never rfl (pi_list (pv 4)) (pg_name (i := 3) sc_law_source.nd rfl (.inl rfl))
    (pss_one (ps_set (i := 5) sc_law_source.nd rfl (.inl rfl) (pe_op op_mod (pe_op op_add (pe_op op_add (pe_op op_mul (pv 5) pe_int) (pe_op op_mod (pv 3) pe_int)) pe_int) pe_int))))
    (pss_cons (ps_set (i := 6) sc_law_source.nd rfl (.inl rfl) (pe_ifExp (pt_cmpR op_gt (pe_callB call_len_seq (by rfl) T.m_len (by decide +kernel) (pa_cons (pv 4) pa_nil)) pe_int (nomark _)) (pe_ix ix_list (pv 4) (pe_op op_mod (pv 1) (pe_callB call_len_seq (by rfl) T.m_len (by decide +kernel) (pa_cons (pv 4) pa_nil))) (fun _ _ => rfl)) pe_int))
    (pss_one (ps_ret (pe_lst (pa_cons (pe_ifExp (pt_cmpR op_ge (pv 6) (pe_op op_pow pe_int pe_int) (nomark _)) (pv 6) pe_int) (pa_cons (pv 5) (pa_cons (pe_op op_mod (pv 1) pe_int) pa_nil))))))))))), ?_⟩
    walk_at "s"
    rename_i c hc D hD
    have ec : cutV (ns.map V.int) none (some 63) = (ns.take 63).map V.int := by
      rw [show (63 : Int) = ((63 : Nat) : Int) from rfl, cut_take, List.map_take]
    rw [ec] at hD ⊢
    have hl1 : Same H (upd H c (.lst ((ns.take 63).map V.int))) := same_new hc
    have hl2 := hl1.trans (same_new (o := .lst []) hD)
    refine lc_list (xs := (ns.take 63).map V.int) (fun i H1 => ∃ ms : List Int, ms.length = i ∧ Same H H1 ∧ H1 c = some (.lst ((ns.take 63).map V.int)) ∧ H1 D = some (.lst (ms.map V.int))) ?_ ?_ ?_ ?_
    · exact ⟨[], rfl, hl2, by walk_at "hp", upd_same⟩
    · intro i H1 hi hP
      obtain ⟨ms, e1, sm, h1, h2⟩ := hP
      exact SqL.of h1
    · intro i x H1 hi hP
      obtain ⟨ms, e1, sm, h1, h2⟩ := hP
      obtain ⟨v, rfl, hv⟩ := map_get hi
      walk_at "s"
      have hi' : i < 63 := by
        have := (List.getElem?_eq_some_iff.mp hv).1
        rw [List.length_take] at this
        omega
      have nc : c ≠ D := by walk_at "ne"
      have nD : H D = none := hl1.free hD
      exact ⟨_, h2, sz_less (by rw [List.length_map]; omega), ms ++ [_], by simp [e1], same_mut sm nD, (upd_ne nc).trans h1, by rw [upd_same, List.map_append]; rfl⟩
    · intro H1 hP
      obtain ⟨ms, e1, sm, h1, h2⟩ := hP
      walk_at "s"
      refine for_list (xs := ms.map V.int) (fun i σ H2 => ∃ v0 v5 v6, σ = [some (.ref l), some (.int n), v0, v5, some (.ref D), some (.int v6), none] ∧ H2 = H1) ⟨_, _, _, rfl, rfl⟩ ?_ ?_ ?_
      · intro i σ H2 hi hP
        obtain ⟨v0, v5, v6, rfl, rfl⟩ := hP
        exact SqL.of h2
      · intro i x σ H2 hi hP
        obtain ⟨v0, v5, v6, rfl, rfl⟩ := hP
        obtain ⟨v, rfl, hv⟩ := map_get hi
        walk_at "s"
        exact ⟨_, _, _, rfl, rfl⟩
      · intro σ H2 hP
        obtain ⟨v0, v5, v6, rfl, rfl⟩ := hP
        walk_at "s"
        · rename_i e0
          obtain ⟨g, hg, ha⟩ := atI_map (f := V.int) (ms := ms) (i := (n : Int) % ((ms.map V.int).length : Int)) (Int.emod_nonneg _ (by omega)) (by
            have := Int.emod_lt_of_pos (n : Int) e0
            rw [List.length_map] at this ⊢
            exact this)
          refine ⟨_, _, _, _, rfl, rfl, SqL.of h2, ha, ?_⟩
          walk_at "s"
          · rename_i p hp
            exact q p _ _ _ _ (sm.trans (same_new hp)) (sm.free hp) upd_same
          · rename_i p hp
            exact q p _ _ _ _ (sm.trans (same_new hp)) (sm.free hp) upd_same
        · rename_i p hp
          exact q p _ _ _ _ (sm.trans (same_new hp)) (sm.free hp) upd_same
/-! ### the same, through and through -/
def spSame (n : Nat) : Sp := fun vs H Q _ => ∃ (x y : V) (d : PyData), vs = [x, y] ∧ Dt H x d ∧ Dt H y d ∧ dep d < n ∧ ∀ H', Same H H' → Q (.bl true) H'
theorem ok_same (T : Top K mg) : ∀ n, FnOk P w K mg base CX0 (n + 1) T.a_law_same T.d_law_same ["answer", "due"] (spSame n) := by
  intro n
  induction n with
  | zero =>
    refine T.F_law_same.ok sc_law_same (fun vs H Q E h => ?_) (fun cdv A outer s H vs Q E hr h => ?_)
    · obtain ⟨x, y, d, rfl, _⟩ := h
      rfl
    · obtain ⟨x, y, d, rfl, hx, hy, hd, q⟩ := h
      omega
  | succ n ih =>
    refine T.F_law_same.ok sc_law_same (fun vs H Q E h => ?_) (fun cdv A outer s H vs Q E hr h => ?_)
    · obtain ⟨x, y, d, rfl, _⟩ := h
      rfl
    · obtain ⟨x, y, d, rfl, hx, hy, hd, q⟩ := h
      have G_law_same := ih
      refine ⟨_, (pss_cons (ps_if (pt_cmpR op_isN (pv 1) pe_non (nomark _))
    (pss_one (ps_ret (pe_cmpR op_isN (pv 0) pe_non (nomark _))))
    pss_nil)
    (pss_cons (ps_if (pt_val (pe_callB call_isi (by rfl) T.m_isinstance (by decide +kernel) (pa_cons (pv 1) (pa_cons (pe_bltn (v := .ty "bool") (u := .type "bool") (by rfl) T.m_bool (by decide +kernel) rfl) pa_nil))))
    (pss_one (ps_ret (pe_and (pe_callB call_isi (by rfl) T.m_isinstance (by decide +kernel) (pa_cons (pv 0) (pa_cons (pe_bltn (v := .ty "bool") (u := .type "bool") (by rfl) T.m_bool (by decide +kernel) rfl) pa_nil))) (pe_one (pe_cmpR op_eq (pv 0) (pv 1) (nomark _))))))
    pss_nil)
    (pss_cons (ps_if (pt_val (pe_callB call_isi (by rfl) T.m_isinstance (by decide +kernel) (pa_cons (pv 1) (pa_cons (pe_bltn (v := .ty "int") (u := .type "int") (by rfl) T.m_int (by decide +kernel) rfl) pa_nil))))
    (pss_one (ps_ret (pe_and (pe_callB call_isi (by rfl) T.m_isinstance (by decide +kernel) (pa_cons (pv 0) (pa_cons (pe_bltn (v := .ty "int") (u := .type "int") (by rfl) T.m_int (by decide +kernel) rfl) pa_nil))) (pe_and (pe_not (pe_callB call_isi (by rfl) T.m_isinstance (by decide +kernel) (pa_cons (pv 0) (pa_cons (pe_bltn (v := .ty "bool") (u := .type "bool") (by rfl) T.m_bool (by decide +kernel) rfl) pa_nil)))) (pe_one (pe_cmpR op_eq (pv 0) (pv 1) (nomark _)))))))
    pss_nil)
    (pss_cons (ps_if (pt_val (pe_callB call_isi (by rfl) T.m_isinstance (by decide +kernel) (pa_cons (pv 1) (pa_cons (pe_bltn (v := .ty "str") (u := .type "str") (by rfl) T.m_str (by decide +kernel) rfl) pa_nil))))
    (pss_one (ps_ret (pe_and (pe_callB call_isi (by rfl) T.m_isinstance (by decide +kernel) (pa_cons (pv 0) (pa_cons (pe_bltn (v := .ty "str") (u := .type "str") (by rfl) T.m_str (by decide +kernel) rfl) pa_nil))) (pe_one (pe_cmpR op_eq (pv 0) (pv 1) (nomark _))))))
    pss_nil)
    (pss_cons (ps_if (pt_val (pe_callB call_isi (by rfl) T.m_isinstance (by decide +kernel) (pa_cons (pv 1) (pa_cons (pe_bltn (v := .ty "dict") (u := .type "dict") (by rfl) T.m_dict (by decide +kernel) rfl) pa_nil)))) pss_never
    pss_nil)
    (pss_cons (ps_if (pt_val (pe_callB call_isi (by rfl) T.m_isinstance (by decide +kernel) (pa_cons (pv 1) (pa_cons (pe_bltn (v := .ty "tuple") (u := .type "tuple") (by rfl) T.m_tuple (by decide +kernel) rfl) pa_nil))))
    (pss_one (ps_if (pt_not (pt_val (pe_callB call_isi (by rfl) T.m_isinstance (by decide +kernel) (pa_cons (pv 0) (pa_cons (pe_bltn (v := .ty "tuple") (u := .type "tuple") (by rfl) T.m_tuple (by decide +kernel) rfl) pa_nil)))))
    (pss_one (ps_ret pe_bl))
    pss_nil))
    (pss_one (ps_if (pt_not (pt_val (pe_callB call_isi (by rfl) T.m_isinstance (by decide +kernel) (pa_cons (pv 0) (pa_cons (pe_bltn (v := .ty "list") (u := .type "list") (by rfl) T.m_list (by decide +kernel) rfl) pa_nil)))))
    (pss_one (ps_ret pe_bl))
    pss_nil)))
    (pss_cons (ps_if (pt_cmpR op_ne (pe_callB call_len_seq (by rfl) T.m_len (by decide +kernel) (pa_cons (pv 0) pa_nil)) (pe_callB call_len_seq (by rfl) T.m_len (by decide +kernel) (pa_cons (pv 1) pa_nil)) (nomark _))
    (pss_one (ps_ret pe_bl))
    pss_nil)
    (pss_cons (ps_for PassesOwn.never rfl (RZ.pi_zipA (by rfl) T.m_zip (pa_cons (pv 0) (pa_cons (pv 1) pa_nil))) (pg_tup rfl (pgs_cons (pg_name (i := 3) sc_law_same.nd rfl (.inl rfl)) (pgs_cons (pg_name (i := 4) sc_law_same.nd rfl (.inl rfl)) pgs_nil)))
    (pss_one (ps_if (pt_not (pt_val (pe_call G_law_same (hr.mono (by omega)) (by rfl) T.m_law_same T.F_law_same.kp T.b_law_same .nil pass0 (pa_cons (pv 3) (pa_cons (pv 4) pa_nil)))))
    (pss_one (ps_ret pe_bl))
    pss_nil)))
    (pss_one (ps_ret pe_bl)))))))))), ?_⟩
      cases d with
      | none =>
        unfold Dt at hx hy
        subst hx hy
        walk_at "s"
        show Q (.bl (decide (V.non = V.non))) H
        rw [decide_eq_true rfl]
        exact q _ (Same.refl H)
      | bool b =>
        unfold Dt at hx hy
        subst hx hy
        walk_at "s"
        show Q (.bl (decide (V.bl b = V.bl b))) H
        rw [decide_eq_true rfl]
        exact q _ (Same.refl H)
      | int b =>
        unfold Dt at hx hy
        subst hx hy
        walk_at "s"
        show Q (.bl (decide (V.int b = V.int b))) H
        rw [decide_eq_true rfl]
        exact q _ (Same.refl H)
      | str b =>
        unfold Dt at hx hy
        subst hx hy
        walk_at "s"
        show Q (.bl (decide (V.str b = V.str b))) H
        rw [decide_eq_true rfl]
        exact q _ (Same.refl H)
      | list ds =>
        unfold Dt at hx hy
        obtain ⟨a, xs, rfl, ha, hxs⟩ := hx
        obtain ⟨b, ys, rfl, hb, hys⟩ := hy
        have el : xs.length = ys.length := by rw [da_len hxs, da_len hys]
        have hd' : depAll ds + 1 < n + 1 := by
          unfold dep at hd
          exact hd
        walk_at "s"
        · rename_i e
          rw [el] at e
          exact absurd rfl e
        · refine ⟨a, b, xs, ys, rfl, .inl ⟨SqL.of ha, SqL.of hb, ?_⟩⟩
          refine RZ.for_zipL el (fun i σ H1 => ∃ v2 v3 v4, σ = [some (.ref a), some (.ref b), v2, v3, v4] ∧ Same H H1) ⟨_, _, _, rfl, Same.refl H⟩ ?_ ?_ ?_
          · intro i σ H1 hP
            obtain ⟨v2, v3, v4, rfl, sm⟩ := hP
            exact ⟨SqL.of (sm _ _ ha), SqL.of (sm _ _ hb)⟩
          · intro i x y t σ H1 hx hy hP ht
            obtain ⟨v2, v3, v4, rfl, sm⟩ := hP
            have hid : i < ds.length := by
              have := (List.getElem?_eq_some_iff.mp hx).1
              rw [da_len hxs] at this
              exact this
            have hdi : ds[i]? = some ds[i] := List.getElem?_eq_getElem hid
            obtain ⟨x', ex, hx'⟩ := da_get hxs hdi
            obtain ⟨y', ey, hy'⟩ := da_get hys hdi
            rw [hx] at ex
            rw [hy] at ey
            cases ex
            cases ey
            have sm2 := sm.trans (same_new (o := .tup [x, y]) ht)
            walk_at "s"
            refine ⟨x, y, ds[i], rfl, Dt.same sm2 _ _ hx', Dt.same sm2 _ _ hy', ?_, fun H2 s2 => ?_⟩
            · have := dep_get hdi
              omega
            · walk_at "s"
              exact ⟨_, _, _, rfl, sm2.trans s2⟩
          · intro σ H1 hP
            obtain ⟨v2, v3, v4, rfl, sm⟩ := hP
            walk_at "s"
            exact q _ sm
      | tuple ds =>
        unfold Dt at hx hy
        obtain ⟨a, xs, rfl, ha, hxs⟩ := hx
        obtain ⟨b, ys, rfl, hb, hys⟩ := hy
        have el : xs.length = ys.length := by rw [da_len hxs, da_len hys]
        have hd' : depAll ds + 1 < n + 1 := by
          unfold dep at hd
          exact hd
        walk_at "s"
        · rename_i e
          rw [el] at e
          exact absurd rfl e
        · refine ⟨a, b, xs, ys, rfl, .inr ⟨SqT.of ha, SqT.of hb, ?_⟩⟩
          refine RZ.for_zipT el (fun i σ H1 => ∃ v2 v3 v4, σ = [some (.ref a), some (.ref b), v2, v3, v4] ∧ Same H H1) ⟨_, _, _, rfl, Same.refl H⟩ ?_ ?_ ?_
          · intro i σ H1 hP
            obtain ⟨v2, v3, v4, rfl, sm⟩ := hP
            exact ⟨SqT.of (sm _ _ ha), SqT.of (sm _ _ hb)⟩
          · intro i x y t σ H1 hx hy hP ht
            obtain ⟨v2, v3, v4, rfl, sm⟩ := hP
            have hid : i < ds.length := by
              have := (List.getElem?_eq_some_iff.mp hx).1
              rw [da_len hxs] at this
              exact this
            have hdi : ds[i]? = some ds[i] := List.getElem?_eq_getElem hid
            obtain ⟨x', ex, hx'⟩ := da_get hxs hdi
            obtain ⟨y', ey, hy'⟩ := da_get hys hdi
            rw [hx] at ex
            rw [hy] at ey
            cases ex
            cases ey
            have sm2 := sm.trans (same_new (o := .tup [x, y]) ht)
            walk_at "s"
            refine ⟨x, y, ds[i], rfl, Dt.same sm2 _ _ hx', Dt.same sm2 _ _ hy', ?_, fun H2 s2 => ?_⟩
            · have := dep_get hdi
              omega
            · walk_at "s"
              exact ⟨_, _, _, rfl, sm2.trans s2⟩
          · intro σ H1 hP
            obtain ⟨v2, v3, v4, rfl, sm⟩ := hP
            walk_at "s"
            exact q _ sm
      | dict ds =>
        unfold Dt at hx
        exact hx.elim
end
end K66W
set_option Elab.async false
set_option linter.all false
set_option maxRecDepth 100000
set_option maxHeartbeats 4000000
namespace K66W
open PySem PySem.Spec PyProof.Rows L2 TL LW PT
local macro_rules | `(tactic| walk_at "ne") => `(tactic| first
  | (with_reducible assumption)
  | exact Ne.symm (by assumption)
  | (with_reducible exact ne_of_none (by assumption) (by assumption))
  | (with_reducible exact (ne_of_none (by assumption) (by assumption)).symm)
  | (apply ne_of_none; (case h' => assumption); (case h => walk_at "hp"))
  | (apply Ne.symm; apply ne_of_none; (case h' => assumption); (case h => walk_at "hp")))
local macro_rules | `(tactic| walk_at "hp") => `(tactic| first
  | (with_reducible assumption)
  | exact upd_same
  | (with_reducible exact hp_new (by assumption) (by assumption))
  | (apply hp_new; (case n => assumption); (case h => walk_at "hp"))
  | (refine (upd_ne ?ne).trans ?hp; (case ne => walk_at "ne"); (case hp => walk_at "hp")))
local macro_rules | `(tactic| walk_at "sq") => `(tactic| first
  | ((with_reducible show SqL _ _ _ _); assumption)
  | ((with_reducible show SqT _ _ _ _); assumption)
  | exact SqL.of (by assumption)
  | exact SqL.of upd_same
  | exact SqT.of (by assumption)
  | exact SqT.of upd_same
  | (apply SqL.of; walk_at "hp")
  | (apply SqT.of; walk_at "hp"))
local macro_rules | `(tactic| walk_at "len") => `(tactic| first
  | (with_reducible assumption)
  | exact sz_small (by omega)
  | exact sz_less (by omega)
  | decide
  | (refine sz_small ?_; simp only [List.length_append, List.length_cons, List.length_nil, List.length_map, str_len]; omega)
  | (refine sz_less ?_; simp only [List.length_append, List.length_cons, List.length_nil, List.length_map, str_len]; omega))
local macro_rules | `(tactic| walk_at "cond") => `(tactic| first
  | omega
  | (split <;> omega)
  | (with_reducible assumption)
  | exact .inl ⟨by omega, by omega⟩
  | exact .inr ⟨by omega, by omega⟩
  | exact ⟨by omega, by omega⟩
  | (show (0 : Int) < _; omega)
  | (show (0 : Int) < _; decide +kernel)
  | exact ⟨by omega, by omega, by decide⟩
  | walk_at "len"
  | rfl
  | (show CMulW _ _; unfold CMulW; decide +kernel)
  | exact ⟨_, rfl⟩
  | decide +kernel
  | exact ⟨_, by walk_at "sq"⟩
  | exact .inl ⟨rfl, _, by walk_at "sq"⟩)
local macro_rules | `(tactic| walk_at "at") => `(tactic| first
  | (with_reducible assumption)
  | exact atI_nat (by assumption)
  | exact atI_last _ _
  | exact atI_nat (j := 0) rfl
  | exact atI_nat (j := 1) rfl
  | exact atI_nat (j := 2) rfl
  | exact atI_nat (j := 3) rfl
  | exact atI_nat (j := 4) rfl)
local macro_rules | `(tactic| walk_at "ix") => `(tactic| first
  | (with_reducible assumption)
  | (with_reducible exact ixN_0 (by simp; done))
  | (with_reducible exact ixN_1 (by simp; done))
  | (with_reducible exact ixN_2 (by simp; done))
  | (with_reducible exact Evl.ixN_nat (by assumption))
  | (with_reducible exact Evl.ixN_nat (by omega)))
local macro_rules | `(tactic| walk_at "v") => `(tactic| first
  | exact val_var rfl
  | (with_reducible exact val_c)
  | (with_reducible apply val_orV; (case ha => walk_at "v"); (case hb => walk_at "v"))
  | (with_reducible apply val_andV; (case ha => walk_at "v"); (case hb => walk_at "v"))
  | (with_reducible apply val_notV; walk_at "v")
  | (with_reducible apply val_ifS; (case h => walk_at "w"); (case ha => walk_at "v"); (case hb => walk_at "v"))
  | (with_reducible apply val_ifI; (case h => walk_at "w"); (case ha => walk_at "v"); (case hb => walk_at "v"))
  | (with_reducible apply val_ifB; (case h => walk_at "w"); (case ha => walk_at "v"); (case hb => walk_at "v"))
  | (with_reducible apply val_eqS; (case ha => walk_at "v"); (case hb => walk_at "v"))
  | (with_reducible apply val_eqI; (case ha => walk_at "v"); (case hb => walk_at "v"))
  | (with_reducible apply val_neS; (case ha => walk_at "v"); (case hb => walk_at "v"))
  | (with_reducible apply val_neI; (case ha => walk_at "v"); (case hb => walk_at "v"))
  | (with_reducible apply val_op; (case ha => walk_at "v"); (case hb => walk_at "v"); (case hr => exact fun Q q => ⟨_, _, rfl, rfl, q⟩)))
local macro_rules | `(tactic| walk_at "w") => `(tactic| first
  | (with_reducible apply ans_or2; (case h1 => walk_at "w"); (case h2 => walk_at "w"))
  | (with_reducible apply ans_and2; (case h1 => walk_at "w"); (case h2 => walk_at "w"))
  | (with_reducible apply ans_not; walk_at "w")
  | (with_reducible apply ans_test; walk_at "v")
  | (with_reducible apply ans_val; walk_at "v"))
local macro_rules | `(tactic| walk_at "s2") => `(tactic| first
  | refine ⟨_, rfl, ?_⟩
  | refine ⟨_, _, rfl, rfl, ?_⟩
  | (refine And.intro ?cc ?_; (case cc => walk_at "cond"))
  | refine ⟨_, _, _, _, rfl, rfl, by walk_at "sq", by walk_at "at", ?_⟩
  | refine ⟨_, _, _, _, rfl, rfl, by walk_at "hp", by walk_at "ix", ?_⟩
  | refine ⟨_, _, _, _, rfl, rfl, by walk_at "hp", by walk_at "hp", by walk_at "len", ?_⟩
  | refine ⟨_, _, _, rfl, rfl, by walk_at "len", by walk_at "at", ?_⟩
  | refine ⟨_, _, _, rfl, rfl, by walk_at "hp", by walk_at "len", ?_⟩
  | refine ⟨_, _, _, rfl, rfl, by walk_at "hp", by walk_at "at", ?_⟩
  | refine ⟨_, _, rfl, rfl, by walk_at "sq", ?_⟩
  | refine ⟨_, _, rfl, rfl, by walk_at "len", ?_⟩
  | refine ⟨_, _, rfl, by walk_at "sq", ?_⟩
  | refine ⟨_, _, rfl, .inl (by walk_at "sq"), ?_⟩
  | refine ⟨_, _, rfl, .inr (by walk_at "sq"), ?_⟩
  | refine ⟨_, _, rfl, by walk_at "sq", rfl, ?_⟩
  | refine ⟨_, fun _ _ h => h, ?_⟩
  | refine .inl ⟨_, rfl, ?_⟩
  | refine ⟨_, _, .type "int", .type _, true, rfl, ClsV.ty _, .base (.int _), kit_ty (by decide +kernel), ?_⟩
  | refine ⟨_, _, .type "int", .type _, false, rfl, ClsV.ty _, .base (.int _), kit_ty (by decide +kernel), ?_⟩
  | refine ⟨_, _, .type "bool", .type _, true, rfl, ClsV.ty _, .base (.bl _), kit_ty (by decide +kernel), ?_⟩
  | refine ⟨_, _, .type "bool", .type _, false, rfl, ClsV.ty _, .base (.bl _), kit_ty (by decide +kernel), ?_⟩
  | refine ⟨_, _, .type "str", .type _, true, rfl, ClsV.ty _, .base (.str _), kit_ty (by decide +kernel), ?_⟩
  | refine ⟨_, _, .type "str", .type _, false, rfl, ClsV.ty _, .base (.str _), kit_ty (by decide +kernel), ?_⟩
  | refine ⟨_, _, .type "NoneType", .type _, true, rfl, ClsV.ty _, .base (.non), kit_ty (by decide +kernel), ?_⟩
  | refine ⟨_, _, .type "NoneType", .type _, false, rfl, ClsV.ty _, .base (.non), kit_ty (by decide +kernel), ?_⟩
  | refine ⟨_, _, .type "list", .type _, true, rfl, ClsV.ty _, .base (.lst (by walk_at "hp")), kit_ty (by decide +kernel), ?_⟩
  | refine ⟨_, _, .type "list", .type _, false, rfl, ClsV.ty _, .base (.lst (by walk_at "hp")), kit_ty (by decide +kernel), ?_⟩
  | refine ⟨_, _, .type "tuple", .type _, true, rfl, ClsV.ty _, .base (.tup (by walk_at "hp")), kit_ty (by decide +kernel), ?_⟩
  | refine ⟨_, _, .type "tuple", .type _, false, rfl, ClsV.ty _, .base (.tup (by walk_at "hp")), kit_ty (by decide +kernel), ?_⟩
  | fail)
local macro_rules | `(tactic| walk_at "s1") => `(tactic| first
  | (with_reducible refine go_gcons ?_)
  | (with_reducible refine go_gnil ?_)
  | (with_reducible refine go_seqM ?_)
  | (with_reducible refine go_nextM ?_)
  | (with_reducible refine go_contM ?_)
  | (with_reducible refine go_brkM ?_)
  | (with_reducible refine go_retM ?_)
  | (with_reducible refine go_asgM ?_)
  | (with_reducible refine go_test ?_)
  | (with_reducible refine go_rI0 ?_)
  | (with_reducible refine go_op ?_)
  | (with_reducible refine go_var rfl ?_)
  | ((with_reducible show tFor (iRng1 _) _ _ _ _ _); refine (show iRng1 _ _ _ _ from ?_))
  | (with_reducible refine go_rng1 ?_)
  | (with_reducible refine go_c ?_)
  | (with_reducible apply go_pick; (case hs => walk_at "hp"); (case h0 => walk_at "cond"); (case h1 => walk_at "cond"); (case' q => intro k a b c h0 h1))
  | (with_reducible refine go_nil ?_)
  | (with_reducible refine go_cons ?_)
  | (with_reducible refine go_call ?_)
  | (with_reducible refine go_cb ?_)
  | (with_reducible refine go_next ?_)
  | (with_reducible refine go_cont ?_)
  | (with_reducible refine go_ret ?_)
  | (with_reducible refine go_name ?_)
  | (with_reducible refine go_seq ?_)
  | (with_reducible refine go_asg ?_)
  | (with_reducible apply go_or; (case h => walk_at "v"))
  | (with_reducible apply go_and; (case h => walk_at "v"))
  | (with_reducible apply go_andL; (case h => walk_at "v"); (case' h1 => intro e); (case' h2 => intro e))
  | (with_reducible apply go_orL; (case h => walk_at "v"); (case' h1 => intro e); (case' h2 => intro e))
  | (with_reducible apply go_ifE; (case h => walk_at "v"))
  | (with_reducible apply go_ifOr; (case h => walk_at "w"); (case' h1 => intro e); (case' h2 => intro e))
  | (with_reducible apply go_ifAnd; (case h => walk_at "w"); (case' h1 => intro e); (case' h2 => intro e))
  | (with_reducible refine go_min ?_)
  | (with_reducible refine iteT ?_)
  | (with_reducible refine iteF ?_)
  | (with_reducible refine iteD (fun _ => ?_) (fun e => absurd rfl e))
  | (with_reducible refine iteS (fun e => ?_) (fun e => ?_))
  | (with_reducible refine iteI (fun e => ?_) (fun e => ?_))
  | (with_reducible refine iteSn (fun e => ?_) (fun e => ?_))
  | (with_reducible refine iteIn (fun e => ?_) (fun e => ?_))
  | (with_reducible refine iteD (fun e => ?_) (fun e => ?_))
  | (with_reducible refine iteDn (fun e => ?_) (fun e => ?_))
  | (with_reducible refine ite2 (fun e => ?_) (fun e => ?_))
  | (refine fun (p : Addr) (hp : _ = none) => ?_)
  | ((conv => whnf); walk_at "s2")
  | fail)
local macro_rules | `(tactic| walk_at "s") => `(tactic| repeat' (first
  | (with_reducible refine go_gcons ?_)
  | (with_reducible refine go_gnil ?_)
  | (with_reducible refine go_seqM ?_)
  | (with_reducible refine go_nextM ?_)
  | (with_reducible refine go_contM ?_)
  | (with_reducible refine go_brkM ?_)
  | (with_reducible refine go_retM ?_)
  | (with_reducible refine go_asgM ?_)
  | (with_reducible refine go_test ?_)
  | (with_reducible refine go_rI0 ?_)
  | (with_reducible refine go_op ?_)
  | (with_reducible refine go_var rfl ?_)
  | ((with_reducible show tFor (iRng1 _) _ _ _ _ _); refine (show iRng1 _ _ _ _ from ?_))
  | (with_reducible refine go_rng1 ?_)
  | (with_reducible refine go_c ?_)
  | (with_reducible apply go_pick; (case hs => walk_at "hp"); (case h0 => walk_at "cond"); (case h1 => walk_at "cond"); (case' q => intro k a b c h0 h1))
  | (with_reducible refine go_nil ?_)
  | (with_reducible refine go_cons ?_)
  | (with_reducible refine go_call ?_)
  | (with_reducible refine go_cb ?_)
  | (with_reducible refine go_next ?_)
  | (with_reducible refine go_cont ?_)
  | (with_reducible refine go_ret ?_)
  | (with_reducible refine go_name ?_)
  | (with_reducible refine go_seq ?_)
  | (with_reducible refine go_asg ?_)
  | (with_reducible apply go_or; (case h => walk_at "v"))
  | (with_reducible apply go_and; (case h => walk_at "v"))
  | (with_reducible apply go_andL; (case h => walk_at "v"); (case' h1 => intro e); (case' h2 => intro e))
  | (with_reducible apply go_orL; (case h => walk_at "v"); (case' h1 => intro e); (case' h2 => intro e))
  | (with_reducible apply go_ifE; (case h => walk_at "v"))
  | (with_reducible apply go_ifOr; (case h => walk_at "w"); (case' h1 => intro e); (case' h2 => intro e))
  | (with_reducible apply go_ifAnd; (case h => walk_at "w"); (case' h1 => intro e); (case' h2 => intro e))
  | (with_reducible refine go_min ?_)
  | (with_reducible refine iteT ?_)
  | (with_reducible refine iteF ?_)
  | (with_reducible refine iteD (fun _ => ?_) (fun e => absurd rfl e))
  | (with_reducible refine iteS (fun e => ?_) (fun e => ?_))
  | (with_reducible refine iteI (fun e => ?_) (fun e => ?_))
  | (with_reducible refine iteSn (fun e => ?_) (fun e => ?_))
  | (with_reducible refine iteIn (fun e => ?_) (fun e => ?_))
  | (with_reducible refine iteD (fun e => ?_) (fun e => ?_))
  | (with_reducible refine iteDn (fun e => ?_) (fun e => ?_))
  | (with_reducible refine ite2 (fun e => ?_) (fun e => ?_))
  | (refine fun (p : Addr) (hp : _ = none) => ?_)
  | ((conv => whnf); walk_at "s2")
  | fail))

section
variable {P : Program} {w : World} {K : PySem.W.Frag} {mg : Str → Option Value} {base : Heap}
/-! ### members written -/
def spText (n : Nat) : Sp := fun vs H Q _ => ∃ (x : V) (d : PyData), vs = [x] ∧ Dt H x d ∧ Wm d ∧ dep d < n ∧ (wr d).length ≤ 100000 ∧ ∀ H', Same H H' → Q (.str (str (wr d))) H'
theorem ok_member_text (T : Top K mg) : ∀ n, FnOk P w K mg base CX0 (n + 1) T.a_member_text T.d_member_text ["member"] (spText n) := by
  intro n
  induction n with
  | zero =>
    refine T.F_member_text.ok sc_member_text (fun vs H Q E h => ?_) (fun cdv A outer s H vs Q E hr h => ?_)
    · obtain ⟨x, d, rfl, _⟩ := h
      rfl
    · obtain ⟨x, d, rfl, hx, hv, hd, hl, q⟩ := h
      omega
  | succ n ih =>
    refine T.F_member_text.ok sc_member_text (fun vs H Q E h => ?_) (fun cdv A outer s H vs Q E hr h => ?_)
    · obtain ⟨x, d, rfl, _⟩ := h
      rfl
    · obtain ⟨x, d, rfl, hx, hv, hd, hl, q⟩ := h
      have G_member_text := ih
      refine ⟨_, (pss_cons (ps_if (pt_cmpR op_isN (pv 0) pe_non (nomark _))
    (pss_one (ps_ret pe_str))
    pss_nil)
    (pss_cons (ps_if (pt_val (pe_callB call_isi (by rfl) T.m_isinstance (by decide +kernel) (pa_cons (pv 0) (pa_cons (pe_bltn (v := .ty "tuple") (u := .type "tuple") (by rfl) T.m_tuple (by decide +kernel) rfl) pa_nil))))
    (pss_one (ps_ret (pe_op op_add_str (pe_op op_add_str pe_str (pe_join pe_str (pe_lc (own := [("one", 1)]) rfl sc_member_text.nd (pi_tup (pv 0)) (blkOk_by (own := [("one", 1)]) (N := ["member", "one"]) (sc := defScope s_member_text) (by decide +kernel)) (fun _ _ _ _ _ => (pg_name (i := 1) sc_member_text.nd rfl (.inl rfl))) (fun _ _ _ _ _ => pts_nil) (fun _ _ _ _ _ => (pe_call G_member_text (hr.mono (by omega)) (by rfl) T.m_member_text T.F_member_text.kp T.b_member_text .nil pass0 (pa_cons (pv 1) pa_nil)))))) pe_str)))
    pss_nil)
    (pss_one (ps_ret (pe_callTy (call_str_big rfl T.dig) (by rfl) T.m_str (by decide +kernel) (pa_cons (pv 0) pa_nil)))))), ?_⟩
      cases d with
      | none =>
        unfold Dt at hx
        subst hx
        have ew : str (wr PyData.none) = Str.ofString "-" := ext_tl (by unfold wr; decide +kernel)
        rw [ew] at q
        walk_at "s"
        exact q _ (Same.refl H)
      | int i =>
        unfold Dt at hx
        subst hx
        have ew : str (wr (PyData.int i)) = Str.ofString (toString i) := by
          unfold wr
          exact str_tl _
        rw [ew] at q
        unfold Wm at hv
        walk_at "s"
        · rename_i e
          cases e
        · exact q _ (Same.refl H)
      | str z =>
        unfold Dt at hx
        subst hx
        have ew : str (wr (PyData.str z)) = z := by
          unfold wr
          exact str_tl _
        rw [ew] at q
        walk_at "s"
        · rename_i e
          cases e
        · exact .inr ⟨z, rfl, q _ (Same.refl H)⟩
      | tuple ds =>
        unfold Dt at hx
        obtain ⟨a, xs, rfl, ha, hxs⟩ := hx
        have ew : str (wr (PyData.tuple ds)) = (Str.ofString "(" ++ Txt.join (Str.ofString " ") ((wrAll ds).map str)) ++ Str.ofString ")" := ext_tl (by
          rw [tl_append, tl_append, join_eq, tl_join, List.map_map]
          rw [show (tl ∘ str : List Nat → List Nat) = id from rfl, List.map_id, show tl (Str.ofString "(") = [40] by decide +kernel, show tl (Str.ofString ")") = [41] by decide +kernel, show tl (Str.ofString " ") = [32] by decide +kernel]
          unfold wr
          rfl)
        have hlw : (joinL [32] (wrAll ds)).length ≤ 100000 := by
          unfold wr at hl
          rw [List.length_cons, List.length_append] at hl
          omega
        have hlj : (Txt.join (Str.ofString " ") ((wrAll ds).map str)).length ≤ 100000 := by
          rw [len_tl, join_eq, tl_join, List.map_map, show (tl ∘ str : List Nat → List Nat) = id from rfl, List.map_id, show tl (Str.ofString " ") = [32] by decide +kernel]
          exact hlw
        rw [ew] at q
        unfold Wm at hv
        unfold dep at hd
        have hxl := da_len hxs
        have hwl := wrAll_len ds
        walk_at "s"
        · rename_i e
          cases e
        · rename_i e D hD
          refine lc_tup (xs := xs) (fun j H2 => Same H H2 ∧ H2 D = some (.lst (((wrAll ds).take j).map fun t => V.str (str t)))) ?_ ?_ ?_ ?_
          · exact ⟨same_new hD, upd_same⟩
          · intro j H2 hj hP
            exact SqT.of (hP.1 _ _ ha)
          · intro j x H2 hj hP
            obtain ⟨sm, h1⟩ := hP
            have hjl := (List.getElem?_eq_some_iff.mp hj).1
            have hdi : ds[j]? = some ds[j] := List.getElem?_eq_getElem (by omega)
            obtain ⟨x', ex, hx'⟩ := da_get hxs hdi
            rw [hj] at ex
            cases ex
            have hw := wrAll_get hdi
            walk_at "s"
            refine ⟨x, ds[j], rfl, Dt.same sm _ _ hx', wmAll_get hv hdi, by have := dep_get hdi; omega, Nat.le_trans (joinL_len (S := [32]) _ (List.mem_of_getElem? hw)) hlw, fun H3 sm3 => ?_⟩
            have h3 := sm3 _ _ h1
            refine ⟨_, h3, ?_, same_mut (sm.trans sm3) hD, ?_⟩
            · rw [List.length_map, List.length_take]
              have s := joinL_sum (S := [32]) (wrAll ds)
              have : (wrAll ds).length * 1 ≤ (joinL [32] (wrAll ds)).length + 1 := by
                have : ([32] : List Nat).length = 1 := rfl
                rw [this] at s
                omega
              exact sz_less (by omega)
            · rw [upd_same, show (wrAll ds).take (j + 1) = (wrAll ds).take j ++ [wr ds[j]] from by rw [List.take_add_one, hw]; rfl, List.map_append]
              rfl
          · intro H2 hP
            obtain ⟨sm, h1⟩ := hP
            rw [hxl, ← hwl, List.take_length] at h1
            have h1' : H2 D = some (.lst (((wrAll ds).map str).map V.str)) := by
              rw [h1, List.map_map]
              rfl
            have hsum : (((wrAll ds).map str).map (·.length)).sum + ((wrAll ds).map str).length * (Str.ofString " ").length ≤ 16777216 := by
              have s : ((wrAll ds).map List.length).sum + (wrAll ds).length * 1 ≤ (joinL [32] (wrAll ds)).length + 1 := joinL_sum (S := [32]) (wrAll ds)
              rw [List.map_map, show (fun x : Str => x.length) ∘ str = List.length from funext str_len, List.length_map, show (Str.ofString " ").length = 1 by decide +kernel]
              omega
            refine ⟨_, D, (wrAll ds).map str, rfl, rfl, .inl (SqL.of h1'), hsum, ?_⟩
            have l1 : (Str.ofString "(").length + (Txt.join (Str.ofString " ") ((wrAll ds).map str)).length ≤ sizeLine := sz_small (by rw [show (Str.ofString "(").length = 1 by decide +kernel]; omega)
            have l2 : (Str.ofString "(" ++ Txt.join (Str.ofString " ") ((wrAll ds).map str)).length + (Str.ofString ")").length ≤ sizeLine := sz_small (by
              rw [len_tl (_ ++ _), tl_append, List.length_append, ← len_tl, ← len_tl, show (Str.ofString "(").length = 1 by decide +kernel, show (Str.ofString ")").length = 1 by decide +kernel]
              omega)
            walk_at "s"
            exact q _ sm
      | bool _ => unfold Wm at hv; exact hv.elim
      | list _ => unfold Wm at hv; exact hv.elim
      | dict _ => unfold Wm at hv; exact hv.elim
theorem ok_law_written (T : Top K mg) : ∀ n, FnOk P w K mg base CX0 (n + 1) T.a_law_written T.d_law_written ["member"] (spText n) := by
  intro n
  induction n with
  | zero =>
    refine T.F_law_written.ok sc_law_written (fun vs H Q E h => ?_) (fun cdv A outer s H vs Q E hr h => ?_)
    · obtain ⟨x, d, rfl, _⟩ := h
      rfl
    · obtain ⟨x, d, rfl, hx, hv, hd, hl, q⟩ := h
      omega
  | succ n ih =>
    refine T.F_law_written.ok sc_law_written (fun vs H Q E h => ?_) (fun cdv A outer s H vs Q E hr h => ?_)
    · obtain ⟨x, d, rfl, _⟩ := h
      rfl
    · obtain ⟨x, d, rfl, hx, hv, hd, hl, q⟩ := h
      have G_law_written := ih
      refine ⟨_, (pss_cons (ps_if (pt_cmpR op_isN (pv 0) pe_non (nomark _))
    (pss_one (ps_ret pe_str))
    pss_nil)
    (pss_cons (ps_if (pt_val (pe_callB call_isi (by rfl) T.m_isinstance (by decide +kernel) (pa_cons (pv 0) (pa_cons (pe_bltn (v := .ty "tuple") (u := .type "tuple") (by rfl) T.m_tuple (by decide +kernel) rfl) pa_nil))))
    (pss_one (ps_ret (pe_op op_add_str (pe_op op_add_str pe_str (pe_join pe_str (pe_lc (own := [("one", 1)]) rfl sc_law_written.nd (pi_tup (pv 0)) (blkOk_by (own := [("one", 1)]) (N := ["member", "one"]) (sc := defScope s_law_written) (by decide +kernel)) (fun _ _ _ _ _ => (pg_name (i := 1) sc_law_written.nd rfl (.inl rfl))) (fun _ _ _ _ _ => pts_nil) (fun _ _ _ _ _ => (pe_call G_law_written (hr.mono (by omega)) (by rfl) T.m_law_written T.F_law_written.kp T.b_law_written .nil pass0 (pa_cons (pv 1) pa_nil)))))) pe_str)))
    pss_nil)
    (pss_one (ps_ret (pe_callTy (call_str_big rfl T.dig) (by rfl) T.m_str (by decide +kernel) (pa_cons (pv 0) pa_nil)))))), ?_⟩
      cases d with
      | none =>
        unfold Dt at hx
        subst hx
        have ew : str (wr PyData.none) = Str.ofString "-" := ext_tl (by unfold wr; decide +kernel)
        rw [ew] at q
        walk_at "s"
        exact q _ (Same.refl H)
      | int i =>
        unfold Dt at hx
        subst hx
        have ew : str (wr (PyData.int i)) = Str.ofString (toString i) := by
          unfold wr
          exact str_tl _
        rw [ew] at q
        unfold Wm at hv
        walk_at "s"
        · rename_i e
          cases e
        · exact q _ (Same.refl H)
      | str z =>
        unfold Dt at hx
        subst hx
        have ew : str (wr (PyData.str z)) = z := by
          unfold wr
          exact str_tl _
        rw [ew] at q
        walk_at "s"
        · rename_i e
          cases e
        · exact .inr ⟨z, rfl, q _ (Same.refl H)⟩
      | tuple ds =>
        unfold Dt at hx
        obtain ⟨a, xs, rfl, ha, hxs⟩ := hx
        have ew : str (wr (PyData.tuple ds)) = (Str.ofString "(" ++ Txt.join (Str.ofString " ") ((wrAll ds).map str)) ++ Str.ofString ")" := ext_tl (by
          rw [tl_append, tl_append, join_eq, tl_join, List.map_map]
          rw [show (tl ∘ str : List Nat → List Nat) = id from rfl, List.map_id, show tl (Str.ofString "(") = [40] by decide +kernel, show tl (Str.ofString ")") = [41] by decide +kernel, show tl (Str.ofString " ") = [32] by decide +kernel]
          unfold wr
          rfl)
        have hlw : (joinL [32] (wrAll ds)).length ≤ 100000 := by
          unfold wr at hl
          rw [List.length_cons, List.length_append] at hl
          omega
        have hlj : (Txt.join (Str.ofString " ") ((wrAll ds).map str)).length ≤ 100000 := by
          rw [len_tl, join_eq, tl_join, List.map_map, show (tl ∘ str : List Nat → List Nat) = id from rfl, List.map_id, show tl (Str.ofString " ") = [32] by decide +kernel]
          exact hlw
        rw [ew] at q
        unfold Wm at hv
        unfold dep at hd
        have hxl := da_len hxs
        have hwl := wrAll_len ds
        walk_at "s"
        · rename_i e
          cases e
        · rename_i e D hD
          refine lc_tup (xs := xs) (fun j H2 => Same H H2 ∧ H2 D = some (.lst (((wrAll ds).take j).map fun t => V.str (str t)))) ?_ ?_ ?_ ?_
          · exact ⟨same_new hD, upd_same⟩
          · intro j H2 hj hP
            exact SqT.of (hP.1 _ _ ha)
          · intro j x H2 hj hP
            obtain ⟨sm, h1⟩ := hP
            have hjl := (List.getElem?_eq_some_iff.mp hj).1
            have hdi : ds[j]? = some ds[j] := List.getElem?_eq_getElem (by omega)
            obtain ⟨x', ex, hx'⟩ := da_get hxs hdi
            rw [hj] at ex
            cases ex
            have hw := wrAll_get hdi
            walk_at "s"
            refine ⟨x, ds[j], rfl, Dt.same sm _ _ hx', wmAll_get hv hdi, by have := dep_get hdi; omega, Nat.le_trans (joinL_len (S := [32]) _ (List.mem_of_getElem? hw)) hlw, fun H3 sm3 => ?_⟩
            have h3 := sm3 _ _ h1
            refine ⟨_, h3, ?_, same_mut (sm.trans sm3) hD, ?_⟩
            · rw [List.length_map, List.length_take]
              have s := joinL_sum (S := [32]) (wrAll ds)
              have : (wrAll ds).length * 1 ≤ (joinL [32] (wrAll ds)).length + 1 := by
                have : ([32] : List Nat).length = 1 := rfl
                rw [this] at s
                omega
              exact sz_less (by omega)
            · rw [upd_same, show (wrAll ds).take (j + 1) = (wrAll ds).take j ++ [wr ds[j]] from by rw [List.take_add_one, hw]; rfl, List.map_append]
              rfl
          · intro H2 hP
            obtain ⟨sm, h1⟩ := hP
            rw [hxl, ← hwl, List.take_length] at h1
            have h1' : H2 D = some (.lst (((wrAll ds).map str).map V.str)) := by
              rw [h1, List.map_map]
              rfl
            have hsum : (((wrAll ds).map str).map (·.length)).sum + ((wrAll ds).map str).length * (Str.ofString " ").length ≤ 16777216 := by
              have s : ((wrAll ds).map List.length).sum + (wrAll ds).length * 1 ≤ (joinL [32] (wrAll ds)).length + 1 := joinL_sum (S := [32]) (wrAll ds)
              rw [List.map_map, show (fun x : Str => x.length) ∘ str = List.length from funext str_len, List.length_map, show (Str.ofString " ").length = 1 by decide +kernel]
              omega
            refine ⟨_, D, (wrAll ds).map str, rfl, rfl, .inl (SqL.of h1'), hsum, ?_⟩
            have l1 : (Str.ofString "(").length + (Txt.join (Str.ofString " ") ((wrAll ds).map str)).length ≤ sizeLine := sz_small (by rw [show (Str.ofString "(").length = 1 by decide +kernel]; omega)
            have l2 : (Str.ofString "(" ++ Txt.join (Str.ofString " ") ((wrAll ds).map str)).length + (Str.ofString ")").length ≤ sizeLine := sz_small (by
              rw [len_tl (_ ++ _), tl_append, List.length_append, ← len_tl, ← len_tl, show (Str.ofString "(").length = 1 by decide +kernel, show (Str.ofString ")").length = 1 by decide +kernel]
              omega)
            walk_at "s"
            exact q _ sm
      | bool _ => unfold Wm at hv; exact hv.elim
      | list _ => unfold Wm at hv; exact hv.elim
      | dict _ => unfold Wm at hv; exact hv.elim
end
end K66W
set_option Elab.async false
set_option linter.all false
set_option maxRecDepth 100000
set_option maxHeartbeats 4000000
namespace K66W
open PySem PySem.Spec PyProof.Rows L2 TL LW PT
local macro_rules | `(tactic| walk_at "ne") => `(tactic| first
  | (with_reducible assumption)
  | exact Ne.symm (by assumption)
  | (with_reducible exact ne_of_none (by assumption) (by assumption))
  | (with_reducible exact (ne_of_none (by assumption) (by assumption)).symm)
  | (apply ne_of_none; (case h' => assumption); (case h => walk_at "hp"))
  | (apply Ne.symm; apply ne_of_none; (case h' => assumption); (case h => walk_at "hp")))
local macro_rules | `(tactic| walk_at "hp") => `(tactic| first
  | (with_reducible assumption)
  | exact upd_same
  | (with_reducible exact hp_new (by assumption) (by assumption))
  | (apply hp_new; (case n => assumption); (case h => walk_at "hp"))
  | (refine (upd_ne ?ne).trans ?hp; (case ne => walk_at "ne"); (case hp => walk_at "hp")))
local macro_rules | `(tactic| walk_at "sq") => `(tactic| first
  | ((with_reducible show SqL _ _ _ _); assumption)
  | ((with_reducible show SqT _ _ _ _); assumption)
  | exact SqL.of (by assumption)
  | exact SqL.of upd_same
  | exact SqT.of (by assumption)
  | exact SqT.of upd_same
  | (apply SqL.of; walk_at "hp")
  | (apply SqT.of; walk_at "hp"))
local macro_rules | `(tactic| walk_at "len") => `(tactic| first
  | (with_reducible assumption)
  | exact sz_small (by omega)
  | exact sz_less (by omega)
  | decide
  | (refine sz_small ?_; simp only [List.length_append, List.length_cons, List.length_nil, List.length_map, str_len]; omega)
  | (refine sz_less ?_; simp only [List.length_append, List.length_cons, List.length_nil, List.length_map, str_len]; omega))
local macro_rules | `(tactic| walk_at "cond") => `(tactic| first
  | omega
  | (split <;> omega)
  | (with_reducible assumption)
  | exact .inl ⟨by omega, by omega⟩
  | exact .inr ⟨by omega, by omega⟩
  | exact ⟨by omega, by omega⟩
  | (show (0 : Int) < _; omega)
  | (show (0 : Int) < _; decide +kernel)
  | exact ⟨by omega, by omega, by decide⟩
  | walk_at "len"
  | rfl
  | (show CMulW _ _; unfold CMulW; decide +kernel)
  | exact ⟨_, rfl⟩
  | decide +kernel
  | exact ⟨_, by walk_at "sq"⟩
  | exact .inl ⟨rfl, _, by walk_at "sq"⟩)
local macro_rules | `(tactic| walk_at "at") => `(tactic| first
  | (with_reducible assumption)
  | exact atI_nat (by assumption)
  | exact atI_last _ _
  | exact atI_nat (j := 0) rfl
  | exact atI_nat (j := 1) rfl
  | exact atI_nat (j := 2) rfl
  | exact atI_nat (j := 3) rfl
  | exact atI_nat (j := 4) rfl)
local macro_rules | `(tactic| walk_at "ix") => `(tactic| first
  | (with_reducible assumption)
  | (with_reducible exact ixN_0 (by simp; done))
  | (with_reducible exact ixN_1 (by simp; done))
  | (with_reducible exact ixN_2 (by simp; done))
  | (with_reducible exact Evl.ixN_nat (by assumption))
  | (with_reducible exact Evl.ixN_nat (by omega)))
local macro_rules | `(tactic| walk_at "v") => `(tactic| first
  | exact val_var rfl
  | (with_reducible exact val_c)
  | (with_reducible apply val_orV; (case ha => walk_at "v"); (case hb => walk_at "v"))
  | (with_reducible apply val_andV; (case ha => walk_at "v"); (case hb => walk_at "v"))
  | (with_reducible apply val_notV; walk_at "v")
  | (with_reducible apply val_ifS; (case h => walk_at "w"); (case ha => walk_at "v"); (case hb => walk_at "v"))
  | (with_reducible apply val_ifI; (case h => walk_at "w"); (case ha => walk_at "v"); (case hb => walk_at "v"))
  | (with_reducible apply val_ifB; (case h => walk_at "w"); (case ha => walk_at "v"); (case hb => walk_at "v"))
  | (with_reducible apply val_eqS; (case ha => walk_at "v"); (case hb => walk_at "v"))
  | (with_reducible apply val_eqI; (case ha => walk_at "v"); (case hb => walk_at "v"))
  | (with_reducible apply val_neS; (case ha => walk_at "v"); (case hb => walk_at "v"))
  | (with_reducible apply val_neI; (case ha => walk_at "v"); (case hb => walk_at "v"))
  | (with_reducible apply val_op; (case ha => walk_at "v"); (case hb => walk_at "v"); (case hr => exact fun Q q => ⟨_, _, rfl, rfl, q⟩)))
local macro_rules | `(tactic| walk_at "w") => `(tactic| first
  | (with_reducible apply ans_or2; (case h1 => walk_at "w"); (case h2 => walk_at "w"))
  | (with_reducible apply ans_and2; (case h1 => walk_at "w"); (case h2 => walk_at "w"))
  | (with_reducible apply ans_not; walk_at "w")
  | (with_reducible apply ans_test; walk_at "v")
  | (with_reducible apply ans_val; walk_at "v"))
local macro_rules | `(tactic| walk_at "s2") => `(tactic| first
  | refine ⟨_, rfl, ?_⟩
  | refine ⟨_, _, rfl, rfl, ?_⟩
  | (refine And.intro ?cc ?_; (case cc => walk_at "cond"))
  | refine ⟨_, _, _, _, rfl, rfl, by walk_at "sq", by walk_at "at", ?_⟩
  | refine ⟨_, _, _, _, rfl, rfl, by walk_at "hp", by walk_at "ix", ?_⟩
  | refine ⟨_, _, _, _, rfl, rfl, by walk_at "hp", by walk_at "hp", by walk_at "len", ?_⟩
  | refine ⟨_, _, _, rfl, rfl, by walk_at "len", by walk_at "at", ?_⟩
  | refine ⟨_, _, _, rfl, rfl, by walk_at "hp", by walk_at "len", ?_⟩
  | refine ⟨_, _, _, rfl, rfl, by walk_at "hp", by walk_at "at", ?_⟩
  | refine ⟨_, _, rfl, rfl, by walk_at "sq", ?_⟩
  | refine ⟨_, _, rfl, rfl, by walk_at "len", ?_⟩
  | refine ⟨_, _, rfl, by walk_at "sq", ?_⟩
  | refine ⟨_, _, rfl, .inl (by walk_at "sq"), ?_⟩
  | refine ⟨_, _, rfl, .inr (by walk_at "sq"), ?_⟩
  | refine ⟨_, _, rfl, by walk_at "sq", rfl, ?_⟩
  | refine ⟨_, fun _ _ h => h, ?_⟩
  | refine .inl ⟨_, rfl, ?_⟩
  | refine ⟨_, _, .type "int", .type _, true, rfl, ClsV.ty _, .base (.int _), kit_ty (by decide +kernel), ?_⟩
  | refine ⟨_, _, .type "int", .type _, false, rfl, ClsV.ty _, .base (.int _), kit_ty (by decide +kernel), ?_⟩
  | refine ⟨_, _, .type "bool", .type _, true, rfl, ClsV.ty _, .base (.bl _), kit_ty (by decide +kernel), ?_⟩
  | refine ⟨_, _, .type "bool", .type _, false, rfl, ClsV.ty _, .base (.bl _), kit_ty (by decide +kernel), ?_⟩
  | refine ⟨_, _, .type "str", .type _, true, rfl, ClsV.ty _, .base (.str _), kit_ty (by decide +kernel), ?_⟩
  | refine ⟨_, _, .type "str", .type _, false, rfl, ClsV.ty _, .base (.str _), kit_ty (by decide +kernel), ?_⟩
  | refine ⟨_, _, .type "NoneType", .type _, true, rfl, ClsV.ty _, .base (.non), kit_ty (by decide +kernel), ?_⟩
  | refine ⟨_, _, .type "NoneType", .type _, false, rfl, ClsV.ty _, .base (.non), kit_ty (by decide +kernel), ?_⟩
  | refine ⟨_, _, .type "list", .type _, true, rfl, ClsV.ty _, .base (.lst (by walk_at "hp")), kit_ty (by decide +kernel), ?_⟩
  | refine ⟨_, _, .type "list", .type _, false, rfl, ClsV.ty _, .base (.lst (by walk_at "hp")), kit_ty (by decide +kernel), ?_⟩
  | refine ⟨_, _, .type "tuple", .type _, true, rfl, ClsV.ty _, .base (.tup (by walk_at "hp")), kit_ty (by decide +kernel), ?_⟩
  | refine ⟨_, _, .type "tuple", .type _, false, rfl, ClsV.ty _, .base (.tup (by walk_at "hp")), kit_ty (by decide +kernel), ?_⟩
  | fail)
local macro_rules | `(tactic| walk_at "s1") => `(tactic| first
  | (with_reducible refine go_gcons ?_)
  | (with_reducible refine go_gnil ?_)
  | (with_reducible refine go_seqM ?_)
  | (with_reducible refine go_nextM ?_)
  | (with_reducible refine go_contM ?_)
  | (with_reducible refine go_brkM ?_)
  | (with_reducible refine go_retM ?_)
  | (with_reducible refine go_asgM ?_)
  | (with_reducible refine go_test ?_)
  | (with_reducible refine go_rI0 ?_)
  | (with_reducible refine go_op ?_)
  | (with_reducible refine go_var rfl ?_)
  | ((with_reducible show tFor (iRng1 _) _ _ _ _ _); refine (show iRng1 _ _ _ _ from ?_))
  | (with_reducible refine go_rng1 ?_)
  | (with_reducible refine go_c ?_)
  | (with_reducible apply go_pick; (case hs => walk_at "hp"); (case h0 => walk_at "cond"); (case h1 => walk_at "cond"); (case' q => intro k a b c h0 h1))
  | (with_reducible refine go_nil ?_)
  | (with_reducible refine go_cons ?_)
  | (with_reducible refine go_call ?_)
  | (with_reducible refine go_cb ?_)
  | (with_reducible refine go_next ?_)
  | (with_reducible refine go_cont ?_)
  | (with_reducible refine go_ret ?_)
  | (with_reducible refine go_name ?_)
  | (with_reducible refine go_seq ?_)
  | (with_reducible refine go_asg ?_)
  | (with_reducible apply go_or; (case h => walk_at "v"))
  | (with_reducible apply go_and; (case h => walk_at "v"))
  | (with_reducible apply go_andL; (case h => walk_at "v"); (case' h1 => intro e); (case' h2 => intro e))
  | (with_reducible apply go_orL; (case h => walk_at "v"); (case' h1 => intro e); (case' h2 => intro e))
  | (with_reducible apply go_ifE; (case h => walk_at "v"))
  | (with_reducible apply go_ifOr; (case h => walk_at "w"); (case' h1 => intro e); (case' h2 => intro e))
  | (with_reducible apply go_ifAnd; (case h => walk_at "w"); (case' h1 => intro e); (case' h2 => intro e))
  | (with_reducible refine go_min ?_)
  | (with_reducible refine iteT ?_)
  | (with_reducible refine iteF ?_)
  | (with_reducible refine iteD (fun _ => ?_) (fun e => absurd rfl e))
  | (with_reducible refine iteS (fun e => ?_) (fun e => ?_))
  | (with_reducible refine iteI (fun e => ?_) (fun e => ?_))
  | (with_reducible refine iteSn (fun e => ?_) (fun e => ?_))
  | (with_reducible refine iteIn (fun e => ?_) (fun e => ?_))
  | (with_reducible refine iteD (fun e => ?_) (fun e => ?_))
  | (with_reducible refine iteDn (fun e => ?_) (fun e => ?_))
  | (with_reducible refine ite2 (fun e => ?_) (fun e => ?_))
  | (refine fun (p : Addr) (hp : _ = none) => ?_)
  | ((conv => whnf); walk_at "s2")
  | fail)
local macro_rules | `(tactic| walk_at "s") => `(tactic| repeat' (first
  | (with_reducible refine go_gcons ?_)
  | (with_reducible refine go_gnil ?_)
  | (with_reducible refine go_seqM ?_)
  | (with_reducible refine go_nextM ?_)
  | (with_reducible refine go_contM ?_)
  | (with_reducible refine go_brkM ?_)
  | (with_reducible refine go_retM ?_)
  | (with_reducible refine go_asgM ?_)
  | (with_reducible refine go_test ?_)
  | (with_reducible refine go_rI0 ?_)
  | (with_reducible refine go_op ?_)
  | (with_reducible refine go_var rfl ?_)
  | ((with_reducible show tFor (iRng1 _) _ _ _ _ _); refine (show iRng1 _ _ _ _ from ?_))
  | (with_reducible refine go_rng1 ?_)
  | (with_reducible refine go_c ?_)
  | (with_reducible apply go_pick; (case hs => walk_at "hp"); (case h0 => walk_at "cond"); (case h1 => walk_at "cond"); (case' q => intro k a b c h0 h1))
  | (with_reducible refine go_nil ?_)
  | (with_reducible refine go_cons ?_)
  | (with_reducible refine go_call ?_)
  | (with_reducible refine go_cb ?_)
  | (with_reducible refine go_next ?_)
  | (with_reducible refine go_cont ?_)
  | (with_reducible refine go_ret ?_)
  | (with_reducible refine go_name ?_)
  | (with_reducible refine go_seq ?_)
  | (with_reducible refine go_asg ?_)
  | (with_reducible apply go_or; (case h => walk_at "v"))
  | (with_reducible apply go_and; (case h => walk_at "v"))
  | (with_reducible apply go_andL; (case h => walk_at "v"); (case' h1 => intro e); (case' h2 => intro e))
  | (with_reducible apply go_orL; (case h => walk_at "v"); (case' h1 => intro e); (case' h2 => intro e))
  | (with_reducible apply go_ifE; (case h => walk_at "v"))
  | (with_reducible apply go_ifOr; (case h => walk_at "w"); (case' h1 => intro e); (case' h2 => intro e))
  | (with_reducible apply go_ifAnd; (case h => walk_at "w"); (case' h1 => intro e); (case' h2 => intro e))
  | (with_reducible refine go_min ?_)
  | (with_reducible refine iteT ?_)
  | (with_reducible refine iteF ?_)
  | (with_reducible refine iteD (fun _ => ?_) (fun e => absurd rfl e))
  | (with_reducible refine iteS (fun e => ?_) (fun e => ?_))
  | (with_reducible refine iteI (fun e => ?_) (fun e => ?_))
  | (with_reducible refine iteSn (fun e => ?_) (fun e => ?_))
  | (with_reducible refine iteIn (fun e => ?_) (fun e => ?_))
  | (with_reducible refine iteD (fun e => ?_) (fun e => ?_))
  | (with_reducible refine iteDn (fun e => ?_) (fun e => ?_))
  | (with_reducible refine ite2 (fun e => ?_) (fun e => ?_))
  | (refine fun (p : Addr) (hp : _ = none) => ?_)
  | ((conv => whnf); walk_at "s2")
  | fail))

theorem cut_from1 {z : Str} : cutS z (some 1) none = str ((tl z).drop 1) := by
  show str (((tl z).drop (HT.sIx z.length 0 (some ((1 : Nat) : Int)))).take (HT.sIx z.length z.length none - HT.sIx z.length 0 (some ((1 : Nat) : Int)))) = _
  rw [HT.sIx_nat, HT.sIx_none, len_tl]
  by_cases h : 1 ≤ (tl z).length
  · rw [show min 1 (tl z).length = 1 by omega, List.take_of_length_le (by rw [List.length_drop]; omega)]
  · rw [show min 1 (tl z).length = (tl z).length by omega, List.drop_of_length_le (Nat.le_refl _), List.take_nil, List.drop_of_length_le (by omega)]
section
variable {P : Program} {w : World} {K : PySem.W.Frag} {mg : Str → Option Value} {base : Heap}
/-! ### a line of words -/
def spLine (K : PySem.W.Frag) : Sp := fun vs H Q _ => ∃ (a : Addr) (ts : List (List Nat)), vs = [.ref a] ∧ H a = some (.lst (ts.map fun t => V.str (str t))) ∧ ts.length ≤ 100000 ∧ (lineOf ts).length ≤ 100000 ∧ ∀ H', Same H H' → Q (.str (str (lineOf ts))) H'
theorem ok_line_of (T : Top K mg) : FnOk P w K mg base CX0 1 T.a_line_of T.d_line_of ["tokens"] (spLine K) := by
  refine T.F_line_of.ok sc_line_of (fun vs H Q E h => ?_) (fun cdv A outer s H vs Q E hr h => ?_)
  · obtain ⟨a, ts, rfl, _⟩ := h
    rfl
  · obtain ⟨a, ts, rfl, ha, hl, hz, q⟩ := h
    refine ⟨_, (pss_cons (ps_set (i := 1) sc_line_of.nd rfl (.inl rfl) pe_str)
    (pss_cons (ps_for PassesOwn.never rfl (pi_range1 rfl T.m_range (pa_cons (pe_callB call_len_seq (by rfl) T.m_len (by decide +kernel) (pa_cons (pv 0) pa_nil)) pa_nil)) (pg_name (i := 2) sc_line_of.nd rfl (.inl rfl))
    (pss_cons (ps_if (PW.pt (pw_and (pt_cmpR op_gt (pv 2) pe_int (nomark _)) (pw_and (pt_cmpR op_ne (pe_ix ix_list (pv 0) (pv 2) (fun _ _ => rfl)) pe_str (nomark _)) (pw_and1 (pt_cmpR op_ne (pe_ix ix_list (pv 0) (pe_op op_sub (pv 2) pe_int) (fun _ _ => rfl)) pe_str (nomark _))))))
    (pss_one (ps_set (i := 1) sc_line_of.nd rfl (.inl rfl) (pe_op op_add_str (pv 1) pe_str)))
    pss_nil)
    (pss_one (ps_set (i := 1) sc_line_of.nd rfl (.inl rfl) (pe_op op_add_str (pv 1) (pe_ix ix_list (pv 0) (pv 2) (fun _ _ => rfl)))))))
    (pss_one (ps_ret (pv 1))))), ?_⟩
    have hml : (ts.map fun t => V.str (str t)).length = ts.length := List.length_map _
    have hrp : tl (Str.ofString ")") = [41] := by decide +kernel
    have hlp : tl (Str.ofString "(") = [40] := by decide +kernel
    have hbl : (Str.ofString " ").length = 1 := by decide +kernel
    walk_at "s"
    refine for_rangeQ (lo := 0) (n := (((ts.map fun t => V.str (str t)).length : Int)).toNat) Q rfl (fun i σ H2 => ∃ v2 : Option V, σ = [some (.ref a), some (.str (str (lineOf (ts.take i)))), v2] ∧ H2 = H) ?_ ?_ ?_
    · exact ⟨_, rfl, rfl⟩
    · intro N X i σ H2 hi hP hN
      obtain ⟨v2, rfl, rfl⟩ := hP
      have hit : i < ts.length := by omega
      have ht : ts[i]? = some ts[i] := List.getElem?_eq_getElem hit
      have hpre := line_pre ts i
      have hpre2 := line_pre ts (i + 1)
      have hat : atI (ts.map fun t => V.str (str t)) (i : Int) = some (.str (str ts[i])) := atI_nat (by rw [List.getElem?_map, ht]; rfl)
      simp only [Int.zero_add]
      have first : i = 0 → str (lineOf (ts.take i)) ++ str ts[i] = str (lineOf (ts.take (i + 1))) := fun h0 => by
        subst h0
        rw [line_first ht, str_app]
        rfl
      have sp1 : str [32] = Str.ofString " " := ext_tl (by decide +kernel)
      have z1 : (str (lineOf (ts.take i))).length ≤ 100000 := by
        rw [str_len]
        omega
      have z2 : (str ts[i]).length ≤ 100000 := by
        rw [str_len]
        have e : ts.take (i + 1) = ts.take i ++ [ts[i]] := by rw [List.take_add_one, ht]; rfl
        cases i with
        | zero =>
          rw [line_first ht] at hpre2
          omega
        | succ k =>
          have hp : ts[k]? = some ts[k] := List.getElem?_eq_getElem (by omega)
          rw [line_next hp ht, List.length_append] at hpre2
          omega
      have z3 : (str (lineOf (ts.take i)) ++ Str.ofString " ").length ≤ 100001 := by
        rw [len_tl, tl_append, List.length_append, ← len_tl, ← len_tl, hbl]
        omega
      walk_at "s"
      · rename_i e0 e1
        obtain ⟨k, rfl⟩ : ∃ k, i = k + 1 := ⟨i - 1, by omega⟩
        have hp : ts[k]? = some ts[k] := List.getElem?_eq_getElem (by omega)
        have n1 : ts[k + 1] ≠ [41] := fun z => e1 ((str_eq hrp).mpr z)
        have hatp : atI (ts.map fun t => V.str (str t)) (((k + 1 : Nat) : Int) - 1) = some (.str (str ts[k])) := by
          rw [show (((k + 1 : Nat) : Int) - 1) = ((k : Nat) : Int) from by omega]
          exact atI_nat (by rw [List.getElem?_map, hp]; rfl)
        refine ⟨_, _, _, _, rfl, rfl, SqL.of ha, hatp, ?_⟩
        walk_at "s"
        · rename_i e2
          have n2 : ts[k] ≠ [40] := fun z => e2 ((str_eq hlp).mpr z)
          have e : str (lineOf (ts.take (k + 1))) ++ Str.ofString " " ++ str ts[k + 1] = str (lineOf (ts.take (k + 1 + 1))) := by
            rw [line_next hp ht, if_pos ⟨n1, n2⟩, ← sp1, str_app, str_app]
          rw [e]
          exact hN _ _ ⟨_, rfl, rfl⟩
        · rename_i e2
          have n2 : ts[k] = [40] := (str_eq hlp).mp e2
          have e : str (lineOf (ts.take (k + 1))) ++ str ts[k + 1] = str (lineOf (ts.take (k + 1 + 1))) := by
            rw [line_next hp ht, if_neg (by simp [n2]), str_app, List.append_nil]
          rw [e]
          exact hN _ _ ⟨_, rfl, rfl⟩
      · rename_i e0 e1
        obtain ⟨k, rfl⟩ : ∃ k, i = k + 1 := ⟨i - 1, by omega⟩
        have hp : ts[k]? = some ts[k] := List.getElem?_eq_getElem (by omega)
        have n1 : ts[k + 1] = [41] := (str_eq hrp).mp e1
        have e : str (lineOf (ts.take (k + 1))) ++ str ts[k + 1] = str (lineOf (ts.take (k + 1 + 1))) := by
          rw [line_next hp ht, if_neg (by simp [n1]), str_app, List.append_nil]
        rw [e]
        exact hN _ _ ⟨_, rfl, rfl⟩
      · rename_i e0
        rw [first (by omega)]
        exact hN _ _ ⟨_, rfl, rfl⟩
    · intro σ H2 hP
      obtain ⟨v2, rfl, rfl⟩ := hP
      rw [show (((ts.map fun t => V.str (str t)).length : Int)).toNat = ts.length from by omega, List.take_length]
      walk_at "s"
      exact q _ (Same.refl _)
/-! ### words -/
def spWord (f : List Nat → Bool) : Sp := fun vs H Q _ => ∃ (z : Str), vs = [.str z] ∧ tl z ≠ [] ∧ z.length ≤ 100000 ∧ ∀ H', Same H H' → Q (.bl (f (tl z))) H'
theorem ok_is_word (T : Top K mg) : FnOk P w K mg base CX0 1 T.a_is_word T.d_is_word ["word"] (spWord isWord) := by
  refine T.F_is_word.ok sc_is_word (fun vs H Q E h => ?_) (fun cdv A outer s H vs Q E hr h => ?_)
  · obtain ⟨z, rfl, _⟩ := h
    rfl
  · obtain ⟨z, rfl, hn, hz, q⟩ := h
    refine ⟨_, (pss_one (ps_ret (pe_and (pe_cmpR op_in_sign (pe_ix ix_str (pv 0) pe_int (fun _ _ => rfl)) (pe_glob (v := .str (Str.ofString "abcdefghijklmnopqrstuvwxyz")) rfl T.m_SMALL ⟨_, rfl⟩) (by rfl)) (pe_one (pe_callB (cr_all rfl) (by rfl) T.m_all (by decide +kernel) (pa_cons (pe_lc (own := [("sign", 1)]) rfl sc_is_word.nd (pi_str (pv 0)) (blkOk_by (own := [("sign", 1)]) (N := ["word", "sign"]) (sc := defScope s_is_word) (by decide +kernel)) (fun _ _ _ _ _ => (pg_name (i := 1) sc_is_word.nd rfl (.inl rfl))) (fun _ _ _ _ _ => pts_nil) (fun _ _ _ _ _ => (pe_cmpR op_in_sign (pv 1) (pe_op op_add_str (pe_glob (v := .str (Str.ofString "abcdefghijklmnopqrstuvwxyz")) rfl T.m_SMALL ⟨_, rfl⟩) (pe_glob (v := .str (Str.ofString "0123456789")) rfl T.m_FIGURES ⟨_, rfl⟩)) (by rfl)))) pa_nil)))))), ?_⟩
    obtain ⟨c, r, hz0⟩ : ∃ c r, tl z = c :: r := by
      cases e : tl z with
      | nil => exact absurd e hn
      | cons c r => exact ⟨c, r, rfl⟩
    have hat : atI z.cps.toList 0 = some c := atI_nat (j := 0) (by show (tl z)[0]? = _; rw [hz0]; rfl)
    have s1 : ∀ c : Nat, decide (c ∈ (Str.ofString "abcdefghijklmnopqrstuvwxyz").cps.toList) = small c := fun c => by
      rw [show (Str.ofString "abcdefghijklmnopqrstuvwxyz").cps.toList = (List.range 26).map (· + 97) by decide +kernel]
      unfold small
      rw [Bool.eq_iff_iff]
      simp only [decide_eq_true_eq, Bool.and_eq_true, List.mem_map, List.mem_range]
      exact ⟨fun ⟨a, h, e⟩ => by omega, fun h => ⟨c - 97, by omega, by omega⟩⟩
    have s2 : ∀ c : Nat, decide (c ∈ (Str.ofString "abcdefghijklmnopqrstuvwxyz" ++ Str.ofString "0123456789").cps.toList) = (small c || fig c) := fun c => by
      have e : (Str.ofString "abcdefghijklmnopqrstuvwxyz" ++ Str.ofString "0123456789").cps.toList = (List.range 26).map (· + 97) ++ (List.range 10).map (· + 48) := by decide +kernel
      rw [e]
      unfold small fig
      rw [Bool.eq_iff_iff]
      simp only [decide_eq_true_eq, Bool.and_eq_true, Bool.or_eq_true, List.mem_append, List.mem_map, List.mem_range]
      exact ⟨fun h => h.elim (fun ⟨a, h, e⟩ => by omega) fun ⟨a, h, e⟩ => by omega, fun h => h.elim (fun h => .inl ⟨c - 97, by omega, by omega⟩) fun h => .inr ⟨c - 48, by omega, by omega⟩⟩
    walk_at "s"
    · rename_i e D hD
      have e1 : small c = true := by
        rw [← s1]
        exact decide_eq_true e
      refine lc_strL (fun j H2 => Same H H2 ∧ H2 D = some (.lst (((((tl z).take j).map fun c => small c || fig c)).map V.bl))) ?_ ?_ ?_
      · exact ⟨same_new hD, upd_same⟩
      · intro j d H2 hj hP
        obtain ⟨sm, h1⟩ := hP
        have hjl := (List.getElem?_eq_some_iff.mp hj).1
        rw [← len_tl] at hjl
        walk_at "s"
        rw [s2]
        refine ⟨_, h1, sz_less (by rw [List.length_map, List.length_map, List.length_take]; omega), same_mut sm hD, ?_⟩
        rw [upd_same, List.take_add_one, hj, List.map_append, List.map_append]
        rfl
      · intro H2 hP
        obtain ⟨sm, h1⟩ := hP
        rw [List.take_length] at h1
        walk_at "s"
        have ew : isWord (tl z) = ((tl z).map fun c => small c || fig c).all id := by
          unfold isWord
          rw [hz0, List.all_map]
          show (small c && _) = _
          rw [e1]
          rfl
        rw [← ew]
        exact q _ sm
    · rename_i e
      have e1 : small c = false := by
        rw [← s1]
        exact decide_eq_false e
      have ew : isWord (tl z) = false := by
        unfold isWord
        rw [hz0]
        show (small c && _) = _
        rw [e1]
        rfl
      rw [ew] at q
      exact q _ (Same.refl H)
theorem ok_is_number (T : Top K mg) : FnOk P w K mg base CX0 1 T.a_is_number T.d_is_number ["word"] (spWord isNum) := by
  refine T.F_is_number.ok sc_is_number (fun vs H Q E h => ?_) (fun cdv A outer s H vs Q E hr h => ?_)
  · obtain ⟨z, rfl, _⟩ := h
    rfl
  · obtain ⟨z, rfl, hn, hz, q⟩ := h
    refine ⟨_, (Evl.pss_cut (ps_set (i := 1) sc_is_number.nd rfl (.inl rfl) (pe_ifExp (pt_cmpR op_eq (pe_ix ix_str (pv 0) pe_int (fun _ _ => rfl)) pe_str (nomark _)) (pe_slice sl_str (pv 0) (po_some pe_int) po_none) (pv 0)))
    (pss_cons (ps_if (PW.pt (pw_or (pt_cmpR op_eq (pv 1) pe_str (nomark _)) (pw_or (pt_cmpR op_gt (pe_callB call_len_str (by rfl) T.m_len (by decide +kernel) (pa_cons (pv 1) pa_nil)) pe_int (nomark _)) (pw_or1 (pt_not (pt_val (pe_callB (cr_all rfl) (by rfl) T.m_all (by decide +kernel) (pa_cons (pe_lc (own := [("sign", 2)]) rfl sc_is_number.nd (pi_str (pv 1)) (blkOk_by (own := [("sign", 2)]) (N := ["word", "figures", "sign"]) (sc := defScope s_is_number) (by decide +kernel)) (fun _ _ _ _ _ => (pg_name (i := 2) sc_is_number.nd rfl (.inl rfl))) (fun _ _ _ _ _ => pts_nil) (fun _ _ _ _ _ => (pe_cmpR op_in_sign (pv 2) (pe_glob (v := .str (Str.ofString "0123456789")) rfl T.m_FIGURES ⟨_, rfl⟩) (by rfl)))) pa_nil))))))))
    (pss_one (ps_ret pe_bl))
    pss_nil)
    (pss_one (ps_ret (pe_or (pe_cmpR op_ne (pe_ix ix_str (pv 1) pe_int (fun _ _ => rfl)) pe_str (nomark _)) (pe_one (pe_cmpR op_eq (pv 0) pe_str (nomark _)))))))), ?_⟩
    obtain ⟨c, r, hz0⟩ : ∃ c r, tl z = c :: r := by
      cases e : tl z with
      | nil => exact absurd e hn
      | cons c r => exact ⟨c, r, rfl⟩
    have hat : atI z.cps.toList 0 = some c := atI_nat (j := 0) (by show (tl z)[0]? = _; rw [hz0]; rfl)
    have d1 : Str.ofString "-" = sg 45 := ext_tl (by decide +kernel)
    have d0 : Str.ofString "0" = sg 48 := ext_tl (by decide +kernel)
    have em : tl (Str.ofString "") = [] := by decide +kernel
    refine go_cutM (fun σ H' => ∃ f : Str, σ = [some (.str z), some (.str f), none] ∧ H' = H ∧ tl f = figs (tl z)) ?_ fun σ H' hM => ?_
    · walk_at "s"
      · rename_i e
        have hc : c = 45 := sg_inj (by rw [← d1]; exact e)
        rw [cut_from1, hz0, tl_str]
        show r = if c = 45 then r else c :: r
        rw [if_pos hc]
      · rename_i e
        have hc : c ≠ 45 := fun x => e (by rw [d1, x])
        rw [hz0]
        show c :: r = if c = 45 then r else c :: r
        rw [if_neg hc]
    obtain ⟨f, rfl, rfl, hf⟩ := hM
    have fl : f.length ≤ 100000 := by
      rw [len_tl, hf, hz0]
      rw [len_tl, hz0, List.length_cons] at hz
      have ef : figs (c :: r) = if c = 45 then r else c :: r := rfl
      rw [ef]
      by_cases hc : c = 45
      · rw [if_pos hc]
        omega
      · rw [if_neg hc, List.length_cons]
        omega
    have fe : f = Str.ofString "" ↔ figs (tl z) = [] := by
      rw [← hf, ← em]
      exact ⟨fun x => congrArg tl x, fun x => ext_tl x⟩
    have s3 : ∀ c : Nat, decide (c ∈ (Str.ofString "0123456789").cps.toList) = fig c := fun c => by
      rw [show (Str.ofString "0123456789").cps.toList = (List.range 10).map (· + 48) by decide +kernel]
      unfold fig
      rw [Bool.eq_iff_iff]
      simp only [decide_eq_true_eq, Bool.and_eq_true, List.mem_map, List.mem_range]
      exact ⟨fun ⟨a, h, e⟩ => by omega, fun h => ⟨c - 48, by omega, by omega⟩⟩
    walk_at "s"
    · rename_i e
      have ew : isNum (tl z) = false := by
        unfold isNum
        rw [fe.mp e]
        rfl
      rw [ew] at q
      exact q _ (Same.refl _)
    · rename_i e1 e2
      have ew : isNum (tl z) = false := by
        unfold isNum
        rw [← hf, ← len_tl, show decide (f.length ≤ 1000) = false from decide_eq_false (by omega)]
        simp
      rw [ew] at q
      exact q _ (Same.refl _)
    · rename_i e1 e2 D hD
      refine lc_strL (fun j H2 => Same H' H2 ∧ H2 D = some (.lst ((((tl f).take j).map fig).map V.bl))) ?_ ?_ ?_
      · exact ⟨same_new hD, upd_same⟩
      · intro j d H2 hj hP
        obtain ⟨sm, h1⟩ := hP
        have hjl := (List.getElem?_eq_some_iff.mp hj).1
        rw [← len_tl] at hjl
        walk_at "s"
        rw [s3]
        refine ⟨_, h1, sz_less (by rw [List.length_map, List.length_map, List.length_take]; omega), same_mut sm hD, ?_⟩
        rw [upd_same, List.take_add_one, hj, List.map_append, List.map_append]
        rfl
      · intro H2 hP
        obtain ⟨sm, h1⟩ := hP
        rw [List.take_length] at h1
        have ne : figs (tl z) ≠ [] := fun x => e1 (fe.mpr x)
        have small1000 : (figs (tl z)).length ≤ 1000 := by
          rw [← hf, ← len_tl]
          omega
        obtain ⟨x, y, hf0⟩ : ∃ x y, tl f = x :: y := by
          cases k : tl f with
          | nil => exact absurd (hf ▸ k) ne
          | cons x y => exact ⟨x, y, rfl⟩
        have hatf : atI f.cps.toList 0 = some x := atI_nat (j := 0) (by show (tl f)[0]? = _; rw [hf0]; rfl)
        have fsz : f.length ≤ sizeLine := sz_small (by omega)
        walk_at "s"
        · rename_i e
          have ew : isNum (tl z) = false := by
            have e' : (figs (tl z)).all fig = false := by
              rw [← hf]
              rw [List.all_map] at e
              simpa using e
            unfold isNum
            rw [e']
            simp
          rw [ew] at q
          exact q _ sm
        · rename_i e0 e
          have e' : (figs (tl z)).all fig = true := by
            rw [← hf]
            rw [List.all_map] at e0
            simpa using e0
          have k : x ≠ 48 := fun w => e (by rw [w, d0])
          have ew : isNum (tl z) = true := by
            unfold isNum
            rw [e', decide_eq_true ne, decide_eq_true small1000, ← hf, hf0]
            simp [k]
          rw [ew] at q
          exact q _ sm
        · rename_i e0 e
          have e' : (figs (tl z)).all fig = true := by
            rw [← hf]
            rw [List.all_map] at e0
            simpa using e0
          have k : x = 48 := sg_inj (by rw [← d0]; exact e)
          have ew : isNum (tl z) = decide (V.str z = V.str (Str.ofString "0")) := by
            rw [dec_eqS, d0]
            have e2 : decide (z = sg 48) = decide (tl z = [48]) := by
              by_cases w : tl z = [48]
              · rw [decide_eq_true w]
                exact decide_eq_true (ext_tl w)
              · rw [decide_eq_false w]
                exact decide_eq_false fun v => w (congrArg tl v)
            rw [e2]
            unfold isNum
            rw [e', decide_eq_true ne, decide_eq_true small1000, ← hf, hf0, k]
            simp
          rw [← ew]
          exact q _ sm
end
end K66W
set_option Elab.async false
set_option linter.all false
set_option maxRecDepth 100000
set_option maxHeartbeats 4000000
namespace K66W
open PySem PySem.Spec PyProof.Rows L2 TL LW PT
local macro_rules | `(tactic| walk_at "ne") => `(tactic| first
  | (with_reducible assumption)
  | exact Ne.symm (by assumption)
  | (with_reducible exact ne_of_none (by assumption) (by assumption))
  | (with_reducible exact (ne_of_none (by assumption) (by assumption)).symm)
  | (apply ne_of_none; (case h' => assumption); (case h => walk_at "hp"))
  | (apply Ne.symm; apply ne_of_none; (case h' => assumption); (case h => walk_at "hp")))
local macro_rules | `(tactic| walk_at "hp") => `(tactic| first
  | (with_reducible assumption)
  | exact upd_same
  | (with_reducible exact hp_new (by assumption) (by assumption))
  | (apply hp_new; (case n => assumption); (case h => walk_at "hp"))
  | (refine (upd_ne ?ne).trans ?hp; (case ne => walk_at "ne"); (case hp => walk_at "hp")))
local macro_rules | `(tactic| walk_at "sq") => `(tactic| first
  | ((with_reducible show SqL _ _ _ _); assumption)
  | ((with_reducible show SqT _ _ _ _); assumption)
  | exact SqL.of (by assumption)
  | exact SqL.of upd_same
  | exact SqT.of (by assumption)
  | exact SqT.of upd_same
  | (apply SqL.of; walk_at "hp")
  | (apply SqT.of; walk_at "hp"))
local macro_rules | `(tactic| walk_at "len") => `(tactic| first
  | (with_reducible assumption)
  | exact sz_small (by omega)
  | exact sz_less (by omega)
  | decide
  | (refine sz_small ?_; simp only [List.length_append, List.length_cons, List.length_nil, List.length_map, str_len]; omega)
  | (refine sz_less ?_; simp only [List.length_append, List.length_cons, List.length_nil, List.length_map, str_len]; omega))
local macro_rules | `(tactic| walk_at "cond") => `(tactic| first
  | omega
  | (split <;> omega)
  | (with_reducible assumption)
  | exact .inl ⟨by omega, by omega⟩
  | exact .inr ⟨by omega, by omega⟩
  | exact ⟨by omega, by omega⟩
  | (show (0 : Int) < _; omega)
  | (show (0 : Int) < _; decide +kernel)
  | exact ⟨by omega, by omega, by decide⟩
  | walk_at "len"
  | rfl
  | (show CMulW _ _; unfold CMulW; decide +kernel)
  | exact ⟨_, rfl⟩
  | decide +kernel
  | exact ⟨_, by walk_at "sq"⟩
  | exact .inl ⟨rfl, _, by walk_at "sq"⟩)
local macro_rules | `(tactic| walk_at "at") => `(tactic| first
  | (with_reducible assumption)
  | exact atI_nat (by assumption)
  | exact atI_last _ _
  | exact atI_nat (j := 0) rfl
  | exact atI_nat (j := 1) rfl
  | exact atI_nat (j := 2) rfl
  | exact atI_nat (j := 3) rfl
  | exact atI_nat (j := 4) rfl)
local macro_rules | `(tactic| walk_at "ix") => `(tactic| first
  | (with_reducible assumption)
  | (with_reducible exact ixN_0 (by simp; done))
  | (with_reducible exact ixN_1 (by simp; done))
  | (with_reducible exact ixN_2 (by simp; done))
  | (with_reducible exact Evl.ixN_nat (by assumption))
  | (with_reducible exact Evl.ixN_nat (by omega)))
local macro_rules | `(tactic| walk_at "v") => `(tactic| first
  | exact val_var rfl
  | (with_reducible exact val_c)
  | (with_reducible apply val_orV; (case ha => walk_at "v"); (case hb => walk_at "v"))
  | (with_reducible apply val_andV; (case ha => walk_at "v"); (case hb => walk_at "v"))
  | (with_reducible apply val_notV; walk_at "v")
  | (with_reducible apply val_ifS; (case h => walk_at "w"); (case ha => walk_at "v"); (case hb => walk_at "v"))
  | (with_reducible apply val_ifI; (case h => walk_at "w"); (case ha => walk_at "v"); (case hb => walk_at "v"))
  | (with_reducible apply val_ifB; (case h => walk_at "w"); (case ha => walk_at "v"); (case hb => walk_at "v"))
  | (with_reducible apply val_eqS; (case ha => walk_at "v"); (case hb => walk_at "v"))
  | (with_reducible apply val_eqI; (case ha => walk_at "v"); (case hb => walk_at "v"))
  | (with_reducible apply val_neS; (case ha => walk_at "v"); (case hb => walk_at "v"))
  | (with_reducible apply val_neI; (case ha => walk_at "v"); (case hb => walk_at "v"))
  | (with_reducible apply val_op; (case ha => walk_at "v"); (case hb => walk_at "v"); (case hr => exact fun Q q => ⟨_, _, rfl, rfl, q⟩)))
local macro_rules | `(tactic| walk_at "w") => `(tactic| first
  | (with_reducible apply ans_or2; (case h1 => walk_at "w"); (case h2 => walk_at "w"))
  | (with_reducible apply ans_and2; (case h1 => walk_at "w"); (case h2 => walk_at "w"))
  | (with_reducible apply ans_not; walk_at "w")
  | (with_reducible apply ans_test; walk_at "v")
  | (with_reducible apply ans_val; walk_at "v"))
local macro_rules | `(tactic| walk_at "s2") => `(tactic| first
  | refine ⟨_, rfl, ?_⟩
  | refine ⟨_, _, rfl, rfl, ?_⟩
  | (refine And.intro ?cc ?_; (case cc => walk_at "cond"))
  | refine ⟨_, _, _, _, rfl, rfl, by walk_at "sq", by walk_at "at", ?_⟩
  | refine ⟨_, _, _, _, rfl, rfl, by walk_at "hp", by walk_at "ix", ?_⟩
  | refine ⟨_, _, _, _, rfl, rfl, by walk_at "hp", by walk_at "hp", by walk_at "len", ?_⟩
  | refine ⟨_, _, _, rfl, rfl, by walk_at "len", by walk_at "at", ?_⟩
  | refine ⟨_, _, _, rfl, rfl, by walk_at "hp", by walk_at "len", ?_⟩
  | refine ⟨_, _, _, rfl, rfl, by walk_at "hp", by walk_at "at", ?_⟩
  | refine ⟨_, _, rfl, rfl, by walk_at "sq", ?_⟩
  | refine ⟨_, _, rfl, rfl, by walk_at "len", ?_⟩
  | refine ⟨_, _, rfl, by walk_at "sq", ?_⟩
  | refine ⟨_, _, rfl, .inl (by walk_at "sq"), ?_⟩
  | refine ⟨_, _, rfl, .inr (by walk_at "sq"), ?_⟩
  | refine ⟨_, _, rfl, by walk_at "sq", rfl, ?_⟩
  | refine ⟨_, fun _ _ h => h, ?_⟩
  | refine .inl ⟨_, rfl, ?_⟩
  | refine ⟨_, _, .type "int", .type _, true, rfl, ClsV.ty _, .base (.int _), kit_ty (by decide +kernel), ?_⟩
  | refine ⟨_, _, .type "int", .type _, false, rfl, ClsV.ty _, .base (.int _), kit_ty (by decide +kernel), ?_⟩
  | refine ⟨_, _, .type "bool", .type _, true, rfl, ClsV.ty _, .base (.bl _), kit_ty (by decide +kernel), ?_⟩
  | refine ⟨_, _, .type "bool", .type _, false, rfl, ClsV.ty _, .base (.bl _), kit_ty (by decide +kernel), ?_⟩
  | refine ⟨_, _, .type "str", .type _, true, rfl, ClsV.ty _, .base (.str _), kit_ty (by decide +kernel), ?_⟩
  | refine ⟨_, _, .type "str", .type _, false, rfl, ClsV.ty _, .base (.str _), kit_ty (by decide +kernel), ?_⟩
  | refine ⟨_, _, .type "NoneType", .type _, true, rfl, ClsV.ty _, .base (.non), kit_ty (by decide +kernel), ?_⟩
  | refine ⟨_, _, .type "NoneType", .type _, false, rfl, ClsV.ty _, .base (.non), kit_ty (by decide +kernel), ?_⟩
  | refine ⟨_, _, .type "list", .type _, true, rfl, ClsV.ty _, .base (.lst (by walk_at "hp")), kit_ty (by decide +kernel), ?_⟩
  | refine ⟨_, _, .type "list", .type _, false, rfl, ClsV.ty _, .base (.lst (by walk_at "hp")), kit_ty (by decide +kernel), ?_⟩
  | refine ⟨_, _, .type "tuple", .type _, true, rfl, ClsV.ty _, .base (.tup (by walk_at "hp")), kit_ty (by decide +kernel), ?_⟩
  | refine ⟨_, _, .type "tuple", .type _, false, rfl, ClsV.ty _, .base (.tup (by walk_at "hp")), kit_ty (by decide +kernel), ?_⟩
  | fail)
local macro_rules | `(tactic| walk_at "s1") => `(tactic| first
  | (with_reducible refine go_gcons ?_)
  | (with_reducible refine go_gnil ?_)
  | (with_reducible refine go_seqM ?_)
  | (with_reducible refine go_nextM ?_)
  | (with_reducible refine go_contM ?_)
  | (with_reducible refine go_brkM ?_)
  | (with_reducible refine go_retM ?_)
  | (with_reducible refine go_asgM ?_)
  | (with_reducible refine go_test ?_)
  | (with_reducible refine go_rI0 ?_)
  | (with_reducible refine go_op ?_)
  | (with_reducible refine go_var rfl ?_)
  | ((with_reducible show tFor (iRng1 _) _ _ _ _ _); refine (show iRng1 _ _ _ _ from ?_))
  | (with_reducible refine go_rng1 ?_)
  | (with_reducible refine go_c ?_)
  | (with_reducible apply go_pick; (case hs => walk_at "hp"); (case h0 => walk_at "cond"); (case h1 => walk_at "cond"); (case' q => intro k a b c h0 h1))
  | (with_reducible refine go_nil ?_)
  | (with_reducible refine go_cons ?_)
  | (with_reducible refine go_call ?_)
  | (with_reducible refine go_cb ?_)
  | (with_reducible refine go_next ?_)
  | (with_reducible refine go_cont ?_)
  | (with_reducible refine go_ret ?_)
  | (with_reducible refine go_name ?_)
  | (with_reducible refine go_seq ?_)
  | (with_reducible refine go_asg ?_)
  | (with_reducible apply go_or; (case h => walk_at "v"))
  | (with_reducible apply go_and; (case h => walk_at "v"))
  | (with_reducible apply go_andL; (case h => walk_at "v"); (case' h1 => intro e); (case' h2 => intro e))
  | (with_reducible apply go_orL; (case h => walk_at "v"); (case' h1 => intro e); (case' h2 => intro e))
  | (with_reducible apply go_ifE; (case h => walk_at "v"))
  | (with_reducible apply go_ifOr; (case h => walk_at "w"); (case' h1 => intro e); (case' h2 => intro e))
  | (with_reducible apply go_ifAnd; (case h => walk_at "w"); (case' h1 => intro e); (case' h2 => intro e))
  | (with_reducible refine go_min ?_)
  | (with_reducible refine iteT ?_)
  | (with_reducible refine iteF ?_)
  | (with_reducible refine iteD (fun _ => ?_) (fun e => absurd rfl e))
  | (with_reducible refine iteS (fun e => ?_) (fun e => ?_))
  | (with_reducible refine iteI (fun e => ?_) (fun e => ?_))
  | (with_reducible refine iteSn (fun e => ?_) (fun e => ?_))
  | (with_reducible refine iteIn (fun e => ?_) (fun e => ?_))
  | (with_reducible refine iteD (fun e => ?_) (fun e => ?_))
  | (with_reducible refine iteDn (fun e => ?_) (fun e => ?_))
  | (with_reducible refine ite2 (fun e => ?_) (fun e => ?_))
  | (refine fun (p : Addr) (hp : _ = none) => ?_)
  | ((conv => whnf); walk_at "s2")
  | fail)
local macro_rules | `(tactic| walk_at "s") => `(tactic| repeat' (first
  | (with_reducible refine go_gcons ?_)
  | (with_reducible refine go_gnil ?_)
  | (with_reducible refine go_seqM ?_)
  | (with_reducible refine go_nextM ?_)
  | (with_reducible refine go_contM ?_)
  | (with_reducible refine go_brkM ?_)
  | (with_reducible refine go_retM ?_)
  | (with_reducible refine go_asgM ?_)
  | (with_reducible refine go_test ?_)
  | (with_reducible refine go_rI0 ?_)
  | (with_reducible refine go_op ?_)
  | (with_reducible refine go_var rfl ?_)
  | ((with_reducible show tFor (iRng1 _) _ _ _ _ _); refine (show iRng1 _ _ _ _ from ?_))
  | (with_reducible refine go_rng1 ?_)
  | (with_reducible refine go_c ?_)
  | (with_reducible apply go_pick; (case hs => walk_at "hp"); (case h0 => walk_at "cond"); (case h1 => walk_at "cond"); (case' q => intro k a b c h0 h1))
  | (with_reducible refine go_nil ?_)
  | (with_reducible refine go_cons ?_)
  | (with_reducible refine go_call ?_)
  | (with_reducible refine go_cb ?_)
  | (with_reducible refine go_next ?_)
  | (with_reducible refine go_cont ?_)
  | (with_reducible refine go_ret ?_)
  | (with_reducible refine go_name ?_)
  | (with_reducible refine go_seq ?_)
  | (with_reducible refine go_asg ?_)
  | (with_reducible apply go_or; (case h => walk_at "v"))
  | (with_reducible apply go_and; (case h => walk_at "v"))
  | (with_reducible apply go_andL; (case h => walk_at "v"); (case' h1 => intro e); (case' h2 => intro e))
  | (with_reducible apply go_orL; (case h => walk_at "v"); (case' h1 => intro e); (case' h2 => intro e))
  | (with_reducible apply go_ifE; (case h => walk_at "v"))
  | (with_reducible apply go_ifOr; (case h => walk_at "w"); (case' h1 => intro e); (case' h2 => intro e))
  | (with_reducible apply go_ifAnd; (case h => walk_at "w"); (case' h1 => intro e); (case' h2 => intro e))
  | (with_reducible refine go_min ?_)
  | (with_reducible refine iteT ?_)
  | (with_reducible refine iteF ?_)
  | (with_reducible refine iteD (fun _ => ?_) (fun e => absurd rfl e))
  | (with_reducible refine iteS (fun e => ?_) (fun e => ?_))
  | (with_reducible refine iteI (fun e => ?_) (fun e => ?_))
  | (with_reducible refine iteSn (fun e => ?_) (fun e => ?_))
  | (with_reducible refine iteIn (fun e => ?_) (fun e => ?_))
  | (with_reducible refine iteD (fun e => ?_) (fun e => ?_))
  | (with_reducible refine iteDn (fun e => ?_) (fun e => ?_))
  | (with_reducible refine ite2 (fun e => ?_) (fun e => ?_))
  | (refine fun (p : Addr) (hp : _ = none) => ?_)
  | ((conv => whnf); walk_at "s2")
  | fail))

section
variable {P : Program} {w : World} {K : PySem.W.Frag} {mg : Str → Option Value} {base : Heap}
/-! ### the words of a line -/
def spToks : Sp := fun vs H Q _ => ∃ (z : Str), vs = [.str z] ∧ z.length ≤ 40000 ∧
  (lineOf (tk [] (tl z)) = tl z → ∀ (l : Addr) (H' : Hp), Same H H' → H l = none → H' l = some (.lst ((tk [] (tl z)).map fun t => V.str (str t))) → Q (.ref l) H') ∧
  (lineOf (tk [] (tl z)) ≠ tl z → ∀ H', Same H H' → Q .non H')
theorem ok_line_tokens (T : Top K mg) : FnOk P w K mg base CX0 2 T.a_line_tokens T.d_line_tokens ["line"] spToks := by
  have G_line_of := ok_line_of (P := P) (w := w) (base := base) T
  refine T.F_line_tokens.ok sc_line_tokens (fun vs H Q E h => ?_) (fun cdv A outer s H vs Q E hr h => ?_)
  · obtain ⟨z, rfl, _⟩ := h
    rfl
  · obtain ⟨z, rfl, hz, q1, q2⟩ := h
    refine ⟨_, (pss_cons (ps_set (i := 1) sc_line_tokens.nd rfl (.inl rfl) (pe_lst pa_nil))
    (pss_cons (ps_set (i := 2) sc_line_tokens.nd rfl (.inl rfl) pe_str)
    (pss_cons (ps_for PassesOwn.never rfl (pi_range1 rfl T.m_range (pa_cons (pe_callB call_len_str (by rfl) T.m_len (by decide +kernel) (pa_cons (pv 0) pa_nil)) pa_nil)) (pg_name (i := 3) sc_line_tokens.nd rfl (.inl rfl))
    (pss_cons (ps_set (i := 4) sc_line_tokens.nd rfl (.inl rfl) (pe_ix ix_str (pv 0) (pv 3) (fun _ _ => rfl)))
    (pss_cons (ps_if (pt_cmpR op_notIn_sign (pv 4) pe_str (by rfl))
    (pss_cons (ps_set (i := 2) sc_line_tokens.nd rfl (.inl rfl) (pe_op op_add_str (pv 2) (pv 4)))
    (pss_one ps_continue))
    pss_nil)
    (pss_cons (ps_if (pt_cmpR op_ne (pv 2) pe_str (nomark _))
    (pss_cons (ps_expr (pe_bm PySem.F.plainAttrs_list PySem.F.slot_list_append PySem.F.type_list_append mt_append (pv 1) (pa_cons (pv 2) pa_nil)))
    (pss_one (ps_set (i := 2) sc_line_tokens.nd rfl (.inl rfl) pe_str)))
    pss_nil)
    (pss_one (ps_if (pt_cmpR op_ne (pv 4) pe_str (nomark _))
    (pss_one (ps_expr (pe_bm PySem.F.plainAttrs_list PySem.F.slot_list_append PySem.F.type_list_append mt_append (pv 1) (pa_cons (pv 4) pa_nil))))
    pss_nil))))))
    (pss_cons (ps_if (pt_cmpR op_ne (pv 2) pe_str (nomark _))
    (pss_one (ps_expr (pe_bm PySem.F.plainAttrs_list PySem.F.slot_list_append PySem.F.type_list_append mt_append (pv 1) (pa_cons (pv 2) pa_nil))))
    pss_nil)
    (pss_one (ps_ret (pe_ifExp (pt_cmpR op_eq (pe_call G_line_of (hr.mono (by omega)) (by rfl) T.m_line_of T.F_line_of.kp T.b_line_of .nil pass0 (pa_cons (pv 1) pa_nil)) (pv 0) (nomark _)) (pv 1) pe_non))))))), ?_⟩
    have s4 : ∀ c : Nat, decide (c ∈ (Str.ofString " ()").cps.toList) = sp c := fun c => by
      rw [show (Str.ofString " ()").cps.toList = [32, 40, 41] by decide +kernel]
      unfold sp
      rw [Bool.eq_iff_iff]
      simp [or_assoc]
    have em : tl (Str.ofString "") = [] := by decide +kernel
    have b1 : Str.ofString " " = sg 32 := ext_tl (by decide +kernel)
    have e0 : Str.ofString "" = str [] := ext_tl (by decide +kernel)
    walk_at "s"
    rename_i F hF
    refine for_rangeQ (lo := 0) (n := ((z.length : Int)).toNat) Q rfl (fun i σ H2 => ∃ (v3 v4 : Option V) (w : List Nat) (fs : List (List Nat)), σ = [some (.str z), some (.ref F), some (.str (str w)), v3, v4] ∧ Same H H2 ∧ H2 F = some (.lst (fs.map fun t => V.str (str t))) ∧
      tk [] (tl z) = fs ++ tk w ((tl z).drop i) ∧ w.length ≤ i) ?_ ?_ ?_
    · rw [e0]
      exact ⟨_, _, [], [], rfl, same_new hF, upd_same, rfl, Nat.le_refl _⟩
    · intro N X i σ H2 hi hP hN
      obtain ⟨v3, v4, w, fs, rfl, sm, hF2, ht, hw⟩ := hP
      have hzl := len_tl z
      have hil : i < (tl z).length := by omega
      have hat : atI z.cps.toList (i : Int) = some (tl z)[i] := atI_tl (List.getElem?_eq_getElem hil)
      have hd : (tl z).drop i = (tl z)[i] :: (tl z).drop (i + 1) := List.drop_eq_getElem_cons hil
      rw [hd] at ht
      generalize (tl z)[i] = c at hat ht
      have hfl : (fs.map fun t => V.str (str t)).length ≤ 80000 := by
        have m := tk_many (tl z) []
        rw [ht, List.length_append] at m
        rw [List.length_map]
        rw [List.length_nil, Nat.zero_add] at m
        omega
      have hwl : (str w).length ≤ 40000 := by
        rw [str_len]
        omega
      have zsz : z.length ≤ sizeLine := sz_small (by omega)
      have hc1 : (sg c).length = 1 := rfl
      simp only [Int.zero_add]
      have hit : sp c = true → tk w (c :: (tl z).drop (i + 1)) = one w ++ (if c = 32 then [] else [[c]]) ++ tk [] ((tl z).drop (i + 1)) := fun k => if_pos k
      have one_w : w ≠ [] → one w = [w] := fun k => if_neg k
      have w_ne : str w ≠ Str.ofString "" → w ≠ [] := fun k x => k (by rw [x, e0])
      have w_em : str w = Str.ofString "" → w = [] := fun k => (str_eq em).mp k
      have hsp : c ∈ (Str.ofString " ()").cps.toList → sp c = true := fun k => by
        rw [← s4]
        exact decide_eq_true k
      have c_ne : sg c ≠ Str.ofString " " → c ≠ 32 := fun k x => k (by rw [x, b1])
      have c_eq : sg c = Str.ofString " " → c = 32 := fun k => sg_inj (by rw [← b1]; exact k)
      have snoc : ∀ (a : List (List Nat)) (t : List Nat), (a.map fun t => V.str (str t)) ++ [V.str (str t)] = (a ++ [t]).map fun t => V.str (str t) := fun a t => by
        rw [List.map_append]
        rfl
      walk_at "s"
      · rename_i e
        have k : sp c = false := by
          rw [← s4]
          exact decide_eq_false e
        have e1 : str w ++ sg c = str (w ++ [c]) := str_app _ _
        refine hN _ _ ⟨some (.int i), some (.str (sg c)), w ++ [c], fs, ?_, sm, hF2, ?_, ?_⟩
        · rw [← e1]
          rfl
        · rw [ht]
          show fs ++ (if sp c = true then _ else tk (w ++ [c]) _) = _
          rw [if_neg (by rw [k]; decide)]
        · rw [List.length_append, List.length_singleton]
          omega
      · rename_i e1 e2 e3
        refine ⟨_, _, _, rfl, rfl, upd_same, sz_less (by rw [List.length_append, List.length_singleton]; omega), ?_⟩
        refine hN _ _ ⟨some (.int i), some (.str (sg c)), [], fs ++ [w] ++ [[c]], ?_, same_mut (same_mut sm hF) hF, ?_, ?_, Nat.zero_le _⟩
        · rw [← e0]
          rfl
        · rw [upd_same, snoc]
          exact congrArg (fun x => some (HO.lst x)) (snoc _ _)
        · rw [ht, hit (hsp e1), one_w (w_ne e2), if_neg (c_ne e3)]
          simp only [List.append_assoc]
      · rename_i e1 e2 e3
        refine hN _ _ ⟨some (.int i), some (.str (sg c)), [], fs ++ [w], ?_, same_mut sm hF, ?_, ?_, Nat.zero_le _⟩
        · rw [← e0]
          rfl
        · rw [upd_same, snoc]
        · rw [ht, hit (hsp e1), one_w (w_ne e2), if_pos (c_eq e3)]
          simp only [List.append_assoc, List.nil_append]
      · rename_i e1 e2 e3
        refine hN _ _ ⟨some (.int i), some (.str (sg c)), [], fs ++ [[c]], ?_, same_mut sm hF, ?_, ?_, Nat.zero_le _⟩
        · rw [w_em e2]
          rfl
        · rw [upd_same]
          exact congrArg (fun x => some (HO.lst x)) (snoc _ _)
        · rw [ht, hit (hsp e1), w_em e2, if_neg (c_ne e3)]
          simp only [one, if_true, List.append_assoc, List.nil_append]
      · rename_i e1 e2 e3
        refine hN _ _ ⟨some (.int i), some (.str (sg c)), [], fs, ?_, sm, hF2, ?_, Nat.zero_le _⟩
        · rw [w_em e2]
          rfl
        · rw [ht, hit (hsp e1), w_em e2, if_pos (c_eq e3)]
          simp only [one, if_true, List.append_assoc, List.nil_append]
    · intro σ H2 hP
      obtain ⟨v3, v4, w, fs, rfl, sm, hF2, ht, hw⟩ := hP
      have hzl := len_tl z
      rw [show ((z.length : Int)).toNat = z.length from by omega, hzl, List.drop_length] at ht
      have many := tk_many (tl z) []
      have sum := tk_sum (tl z) []
      have ll := line_len (tk [] (tl z))
      rw [List.length_nil, Nat.zero_add] at many sum
      have snoc : ∀ (a : List (List Nat)) (t : List Nat), (a.map fun t => V.str (str t)) ++ [V.str (str t)] = (a ++ [t]).map fun t => V.str (str t) := fun a t => by
        rw [List.map_append]
        rfl
      have hfl : (fs.map fun t => V.str (str t)).length ≤ 80000 ∨ Str.ofString "" = sg 0 := by
        refine .inl ?_
        rw [ht, List.length_append] at many
        rw [List.length_map]
        omega
      have done : ∀ H3 : Hp, Same H H3 → H3 F = some (.lst ((tk [] (tl z)).map fun t => V.str (str t))) → ∀ R : VK, (∀ H4, Same H3 H4 → R (.str (str (lineOf (tk [] (tl z))))) H4) → spLine K [.ref F] H3 R E0 := fun H3 s3 h3 R r => ⟨F, tk [] (tl z), rfl, h3, by omega, by omega, r⟩
      have zsz : z.length ≤ sizeLine := sz_small (by omega)
      clear ll sum many
      have key := str_eq (t := lineOf (tk [] (tl z))) (u := tl z) (z := z) rfl
      walk_at "s"
      · rename_i e
        refine ⟨_, _, _, rfl, rfl, hF2, sz_less (by rcases hfl with k | k; omega; exact absurd (congrArg tl k) (by decide +kernel)), ?_⟩
        have ho : one w = [w] := if_neg fun x => e (by rw [x, e0])
        have h3 : (upd H2 F (.lst ((fs.map fun t => V.str (str t)) ++ [V.str (str w)]))) F = some (.lst ((tk [] (tl z)).map fun t => V.str (str t))) := by
          rw [upd_same, snoc, ht]
          show _ = some (HO.lst ((fs ++ one w).map _))
          rw [ho]
        have s3 := same_mut sm hF (o := .lst ((fs.map fun t => V.str (str t)) ++ [V.str (str w)]))
        generalize upd H2 F (.lst ((fs.map fun t => V.str (str t)) ++ [V.str (str w)])) = H3 at h3 s3
        walk_at "s"
        refine done _ s3 h3 _ fun H4 s4 => ?_
        walk_at "s"
        · rename_i e
          exact q1 (key.mp e) F H4 (s3.trans s4) hF (s4 F _ h3)
        · rename_i e
          exact q2 (fun x => e (key.mpr x)) H4 (s3.trans s4)
      · rename_i e
        have ho : one w = [] := if_pos ((str_eq em).mp e)
        have h3 : H2 F = some (.lst ((tk [] (tl z)).map fun t => V.str (str t))) := by
          rw [hF2, ht]
          show _ = some (HO.lst ((fs ++ one w).map _))
          rw [ho, List.append_nil]
        refine done _ sm h3 _ fun H4 s4 => ?_
        walk_at "s"
        · rename_i e
          exact q1 (key.mp e) F H4 (sm.trans s4) hF (s4 F _ h3)
        · rename_i e
          exact q2 (fun x => e (key.mpr x)) H4 (sm.trans s4)
end
end K66W
set_option Elab.async false
set_option linter.all false
set_option maxRecDepth 100000
set_option maxHeartbeats 4000000
namespace K66W
open PySem PySem.Spec PyProof.Rows L2 TL LW PT
local macro_rules | `(tactic| walk_at "ne") => `(tactic| first
  | (with_reducible assumption)
  | exact Ne.symm (by assumption)
  | (with_reducible exact ne_of_none (by assumption) (by assumption))
  | (with_reducible exact (ne_of_none (by assumption) (by assumption)).symm)
  | (apply ne_of_none; (case h' => assumption); (case h => walk_at "hp"))
  | (apply Ne.symm; apply ne_of_none; (case h' => assumption); (case h => walk_at "hp")))
local macro_rules | `(tactic| walk_at "hp") => `(tactic| first
  | (with_reducible assumption)
  | exact upd_same
  | (with_reducible exact hp_new (by assumption) (by assumption))
  | (apply hp_new; (case n => assumption); (case h => walk_at "hp"))
  | (refine (upd_ne ?ne).trans ?hp; (case ne => walk_at "ne"); (case hp => walk_at "hp")))
local macro_rules | `(tactic| walk_at "sq") => `(tactic| first
  | ((with_reducible show SqL _ _ _ _); assumption)
  | ((with_reducible show SqT _ _ _ _); assumption)
  | exact SqL.of (by assumption)
  | exact SqL.of upd_same
  | exact SqT.of (by assumption)
  | exact SqT.of upd_same
  | (apply SqL.of; walk_at "hp")
  | (apply SqT.of; walk_at "hp"))
local macro_rules | `(tactic| walk_at "len") => `(tactic| first
  | (with_reducible assumption)
  | exact sz_small (by omega)
  | exact sz_less (by omega)
  | decide
  | (refine sz_small ?_; simp only [List.length_append, List.length_cons, List.length_nil, List.length_map, str_len]; omega)
  | (refine sz_less ?_; simp only [List.length_append, List.length_cons, List.length_nil, List.length_map, str_len]; omega))
local macro_rules | `(tactic| walk_at "cond") => `(tactic| first
  | omega
  | (split <;> omega)
  | (with_reducible assumption)
  | exact .inl ⟨by omega, by omega⟩
  | exact .inr ⟨by omega, by omega⟩
  | exact ⟨by omega, by omega⟩
  | (show (0 : Int) < _; omega)
  | (show (0 : Int) < _; decide +kernel)
  | exact ⟨by omega, by omega, by decide⟩
  | walk_at "len"
  | rfl
  | (show CMulW _ _; unfold CMulW; decide +kernel)
  | exact ⟨_, rfl⟩
  | decide +kernel
  | exact ⟨_, by walk_at "sq"⟩
  | exact .inl ⟨rfl, _, by walk_at "sq"⟩)
local macro_rules | `(tactic| walk_at "at") => `(tactic| first
  | (with_reducible assumption)
  | exact atI_nat (by assumption)
  | exact atI_last _ _
  | exact atI_nat (j := 0) rfl
  | exact atI_nat (j := 1) rfl
  | exact atI_nat (j := 2) rfl
  | exact atI_nat (j := 3) rfl
  | exact atI_nat (j := 4) rfl)
local macro_rules | `(tactic| walk_at "ix") => `(tactic| first
  | (with_reducible assumption)
  | (with_reducible exact ixN_0 (by simp; done))
  | (with_reducible exact ixN_1 (by simp; done))
  | (with_reducible exact ixN_2 (by simp; done))
  | (with_reducible exact Evl.ixN_nat (by assumption))
  | (with_reducible exact Evl.ixN_nat (by omega)))
local macro_rules | `(tactic| walk_at "v") => `(tactic| first
  | exact val_var rfl
  | (with_reducible exact val_c)
  | (with_reducible apply val_orV; (case ha => walk_at "v"); (case hb => walk_at "v"))
  | (with_reducible apply val_andV; (case ha => walk_at "v"); (case hb => walk_at "v"))
  | (with_reducible apply val_notV; walk_at "v")
  | (with_reducible apply val_ifS; (case h => walk_at "w"); (case ha => walk_at "v"); (case hb => walk_at "v"))
  | (with_reducible apply val_ifI; (case h => walk_at "w"); (case ha => walk_at "v"); (case hb => walk_at "v"))
  | (with_reducible apply val_ifB; (case h => walk_at "w"); (case ha => walk_at "v"); (case hb => walk_at "v"))
  | (with_reducible apply val_eqS; (case ha => walk_at "v"); (case hb => walk_at "v"))
  | (with_reducible apply val_eqI; (case ha => walk_at "v"); (case hb => walk_at "v"))
  | (with_reducible apply val_neS; (case ha => walk_at "v"); (case hb => walk_at "v"))
  | (with_reducible apply val_neI; (case ha => walk_at "v"); (case hb => walk_at "v"))
  | (with_reducible apply val_op; (case ha => walk_at "v"); (case hb => walk_at "v"); (case hr => exact fun Q q => ⟨_, _, rfl, rfl, q⟩)))
local macro_rules | `(tactic| walk_at "w") => `(tactic| first
  | (with_reducible apply ans_or2; (case h1 => walk_at "w"); (case h2 => walk_at "w"))
  | (with_reducible apply ans_and2; (case h1 => walk_at "w"); (case h2 => walk_at "w"))
  | (with_reducible apply ans_not; walk_at "w")
  | (with_reducible apply ans_test; walk_at "v")
  | (with_reducible apply ans_val; walk_at "v"))
local macro_rules | `(tactic| walk_at "s2") => `(tactic| first
  | refine ⟨_, rfl, ?_⟩
  | refine ⟨_, _, rfl, rfl, ?_⟩
  | (refine And.intro ?cc ?_; (case cc => walk_at "cond"))
  | refine ⟨_, _, _, _, rfl, rfl, by walk_at "sq", by walk_at "at", ?_⟩
  | refine ⟨_, _, _, _, rfl, rfl, by walk_at "hp", by walk_at "ix", ?_⟩
  | refine ⟨_, _, _, _, rfl, rfl, by walk_at "hp", by walk_at "hp", by walk_at "len", ?_⟩
  | refine ⟨_, _, _, rfl, rfl, by walk_at "len", by walk_at "at", ?_⟩
  | refine ⟨_, _, _, rfl, rfl, by walk_at "hp", by walk_at "len", ?_⟩
  | refine ⟨_, _, _, rfl, rfl, by walk_at "hp", by walk_at "at", ?_⟩
  | refine ⟨_, _, rfl, rfl, by walk_at "sq", ?_⟩
  | refine ⟨_, _, rfl, rfl, by walk_at "len", ?_⟩
  | refine ⟨_, _, rfl, by walk_at "sq", ?_⟩
  | refine ⟨_, _, rfl, .inl (by walk_at "sq"), ?_⟩
  | refine ⟨_, _, rfl, .inr (by walk_at "sq"), ?_⟩
  | refine ⟨_, _, rfl, by walk_at "sq", rfl, ?_⟩
  | refine ⟨_, fun _ _ h => h, ?_⟩
  | refine .inl ⟨_, rfl, ?_⟩
  | refine ⟨_, _, .type "int", .type _, true, rfl, ClsV.ty _, .base (.int _), kit_ty (by decide +kernel), ?_⟩
  | refine ⟨_, _, .type "int", .type _, false, rfl, ClsV.ty _, .base (.int _), kit_ty (by decide +kernel), ?_⟩
  | refine ⟨_, _, .type "bool", .type _, true, rfl, ClsV.ty _, .base (.bl _), kit_ty (by decide +kernel), ?_⟩
  | refine ⟨_, _, .type "bool", .type _, false, rfl, ClsV.ty _, .base (.bl _), kit_ty (by decide +kernel), ?_⟩
  | refine ⟨_, _, .type "str", .type _, true, rfl, ClsV.ty _, .base (.str _), kit_ty (by decide +kernel), ?_⟩
  | refine ⟨_, _, .type "str", .type _, false, rfl, ClsV.ty _, .base (.str _), kit_ty (by decide +kernel), ?_⟩
  | refine ⟨_, _, .type "NoneType", .type _, true, rfl, ClsV.ty _, .base (.non), kit_ty (by decide +kernel), ?_⟩
  | refine ⟨_, _, .type "NoneType", .type _, false, rfl, ClsV.ty _, .base (.non), kit_ty (by decide +kernel), ?_⟩
  | refine ⟨_, _, .type "list", .type _, true, rfl, ClsV.ty _, .base (.lst (by walk_at "hp")), kit_ty (by decide +kernel), ?_⟩
  | refine ⟨_, _, .type "list", .type _, false, rfl, ClsV.ty _, .base (.lst (by walk_at "hp")), kit_ty (by decide +kernel), ?_⟩
  | refine ⟨_, _, .type "tuple", .type _, true, rfl, ClsV.ty _, .base (.tup (by walk_at "hp")), kit_ty (by decide +kernel), ?_⟩
  | refine ⟨_, _, .type "tuple", .type _, false, rfl, ClsV.ty _, .base (.tup (by walk_at "hp")), kit_ty (by decide +kernel), ?_⟩
  | fail)
local macro_rules | `(tactic| walk_at "s1") => `(tactic| first
  | (with_reducible refine go_gcons ?_)
  | (with_reducible refine go_gnil ?_)
  | (with_reducible refine go_seqM ?_)
  | (with_reducible refine go_nextM ?_)
  | (with_reducible refine go_contM ?_)
  | (with_reducible refine go_brkM ?_)
  | (with_reducible refine go_retM ?_)
  | (with_reducible refine go_asgM ?_)
  | (with_reducible refine go_test ?_)
  | (with_reducible refine go_rI0 ?_)
  | (with_reducible refine go_op ?_)
  | (with_reducible refine go_var rfl ?_)
  | ((with_reducible show tFor (iRng1 _) _ _ _ _ _); refine (show iRng1 _ _ _ _ from ?_))
  | (with_reducible refine go_rng1 ?_)
  | (with_reducible refine go_c ?_)
  | (with_reducible apply go_pick; (case hs => walk_at "hp"); (case h0 => walk_at "cond"); (case h1 => walk_at "cond"); (case' q => intro k a b c h0 h1))
  | (with_reducible refine go_nil ?_)
  | (with_reducible refine go_cons ?_)
  | (with_reducible refine go_call ?_)
  | (with_reducible refine go_cb ?_)
  | (with_reducible refine go_next ?_)
  | (with_reducible refine go_cont ?_)
  | (with_reducible refine go_ret ?_)
  | (with_reducible refine go_name ?_)
  | (with_reducible refine go_seq ?_)
  | (with_reducible refine go_asg ?_)
  | (with_reducible apply go_or; (case h => walk_at "v"))
  | (with_reducible apply go_and; (case h => walk_at "v"))
  | (with_reducible apply go_andL; (case h => walk_at "v"); (case' h1 => intro e); (case' h2 => intro e))
  | (with_reducible apply go_orL; (case h => walk_at "v"); (case' h1 => intro e); (case' h2 => intro e))
  | (with_reducible apply go_ifE; (case h => walk_at "v"))
  | (with_reducible apply go_ifOr; (case h => walk_at "w"); (case' h1 => intro e); (case' h2 => intro e))
  | (with_reducible apply go_ifAnd; (case h => walk_at "w"); (case' h1 => intro e); (case' h2 => intro e))
  | (with_reducible refine go_min ?_)
  | (with_reducible refine iteT ?_)
  | (with_reducible refine iteF ?_)
  | (with_reducible refine iteD (fun _ => ?_) (fun e => absurd rfl e))
  | (with_reducible refine iteS (fun e => ?_) (fun e => ?_))
  | (with_reducible refine iteI (fun e => ?_) (fun e => ?_))
  | (with_reducible refine iteSn (fun e => ?_) (fun e => ?_))
  | (with_reducible refine iteIn (fun e => ?_) (fun e => ?_))
  | (with_reducible refine iteD (fun e => ?_) (fun e => ?_))
  | (with_reducible refine iteDn (fun e => ?_) (fun e => ?_))
  | (with_reducible refine ite2 (fun e => ?_) (fun e => ?_))
  | (refine fun (p : Addr) (hp : _ = none) => ?_)
  | ((conv => whnf); walk_at "s2")
  | fail)
local macro_rules | `(tactic| walk_at "s") => `(tactic| repeat' (first
  | (with_reducible refine go_gcons ?_)
  | (with_reducible refine go_gnil ?_)
  | (with_reducible refine go_seqM ?_)
  | (with_reducible refine go_nextM ?_)
  | (with_reducible refine go_contM ?_)
  | (with_reducible refine go_brkM ?_)
  | (with_reducible refine go_retM ?_)
  | (with_reducible refine go_asgM ?_)
  | (with_reducible refine go_test ?_)
  | (with_reducible refine go_rI0 ?_)
  | (with_reducible refine go_op ?_)
  | (with_reducible refine go_var rfl ?_)
  | ((with_reducible show tFor (iRng1 _) _ _ _ _ _); refine (show iRng1 _ _ _ _ from ?_))
  | (with_reducible refine go_rng1 ?_)
  | (with_reducible refine go_c ?_)
  | (with_reducible apply go_pick; (case hs => walk_at "hp"); (case h0 => walk_at "cond"); (case h1 => walk_at "cond"); (case' q => intro k a b c h0 h1))
  | (with_reducible refine go_nil ?_)
  | (with_reducible refine go_cons ?_)
  | (with_reducible refine go_call ?_)
  | (with_reducible refine go_cb ?_)
  | (with_reducible refine go_next ?_)
  | (with_reducible refine go_cont ?_)
  | (with_reducible refine go_ret ?_)
  | (with_reducible refine go_name ?_)
  | (with_reducible refine go_seq ?_)
  | (with_reducible refine go_asg ?_)
  | (with_reducible apply go_or; (case h => walk_at "v"))
  | (with_reducible apply go_and; (case h => walk_at "v"))
  | (with_reducible apply go_andL; (case h => walk_at "v"); (case' h1 => intro e); (case' h2 => intro e))
  | (with_reducible apply go_orL; (case h => walk_at "v"); (case' h1 => intro e); (case' h2 => intro e))
  | (with_reducible apply go_ifE; (case h => walk_at "v"))
  | (with_reducible apply go_ifOr; (case h => walk_at "w"); (case' h1 => intro e); (case' h2 => intro e))
  | (with_reducible apply go_ifAnd; (case h => walk_at "w"); (case' h1 => intro e); (case' h2 => intro e))
  | (with_reducible refine go_min ?_)
  | (with_reducible refine iteT ?_)
  | (with_reducible refine iteF ?_)
  | (with_reducible refine iteD (fun _ => ?_) (fun e => absurd rfl e))
  | (with_reducible refine iteS (fun e => ?_) (fun e => ?_))
  | (with_reducible refine iteI (fun e => ?_) (fun e => ?_))
  | (with_reducible refine iteSn (fun e => ?_) (fun e => ?_))
  | (with_reducible refine iteIn (fun e => ?_) (fun e => ?_))
  | (with_reducible refine iteD (fun e => ?_) (fun e => ?_))
  | (with_reducible refine iteDn (fun e => ?_) (fun e => ?_))
  | (with_reducible refine ite2 (fun e => ?_) (fun e => ?_))
  | (refine fun (p : Addr) (hp : _ = none) => ?_)
  | ((conv => whnf); walk_at "s2")
  | fail))

section
variable {P : Program} {w : World} {K : PySem.W.Frag} {mg : Str → Option Value} {base : Heap}
/-! ### the error -/
def spInit (K : PySem.W.Frag) (C : Addr) : Sp := fun vs H Q _ => ∃ (a : Addr) (n : Nat), vs = [.ref a, .int n] ∧ H a = some (exo a C none) ∧ n ≤ 100000 ∧ ∀ dx, H dx = none → dx ≠ a → Q .non (upd (upd H dx (exd dx [("line", .int n)])) a (exo a C (some dx)))
theorem small_log {n : Nat} (h : n ≤ 100000) : ((n : Nat) : Int).natAbs.log2 < 1920 := by
  rw [Int.natAbs_natCast]
  by_cases z : n = 0
  · subst z
    decide
  · exact (Nat.log2_lt z).mpr (Nat.lt_of_le_of_lt h (Nat.lt_of_lt_of_le (by decide : 100000 < 2 ^ 17) (Nat.pow_le_pow_right (by decide) (by decide))))
theorem ok_init (T : Top K mg) : FnOk P w K mg base CX0 1 T.a_BadLetter___init__ T.d_BadLetter___init__ ["self", "line"] (spInit K T.C_BadLetter) := by
  refine T.F_BadLetter___init__.ok sc_BadLetter___init__ (fun vs H Q E h => ?_) (fun cdv A outer s H vs Q E hr h => ?_)
  · obtain ⟨a, n, rfl, _⟩ := h
    rfl
  · obtain ⟨a, n, rfl, ha, hn, q⟩ := h
    refine ⟨_, (pss_cons (ps_expr (pe_baseinit rfl T.m_SleepError T.B_SleepError (pa_cons (pv 0) (pa_cons (pe_op op_add_str (pe_op op_add_str pe_str pe_str) (pe_callTy call_str_int (by rfl) T.m_str (by decide +kernel) (pa_cons (pv 1) pa_nil))) pa_nil))))
    (pss_one (ps_ost (pv 0) (pv 1)))), ?_⟩
    walk_at "s"
    have l2 : (Str.ofString (toString ((n : Nat) : Int))).length ≤ 10 := toString_length_le (by omega) (by decide) (by omega)
    refine ⟨small_log hn, _, _, rfl, rfl, sz_small ?_, ?_⟩
    · have l1 : (Str.ofString "BadLetter" ++ Str.ofString " ").length = 10 := by decide +kernel
      rw [l1]
      omega
    refine ⟨a, T.C_BadLetter, [_], rfl, by show 1 ≤ 1000; decide, T.E_BadLetter.ox, ha, ?_⟩
    exact ⟨_, rfl, _, rfl, a, T.C_BadLetter, rfl, T.E_BadLetter.ox, T.E_BadLetter.no, .inl ⟨ha, fun dx h1 h2 => q dx h1 h2⟩⟩
/-- what goes out as BadLetter(n) -/
def Bad (C : Addr) (n : Nat) (H : Hp) (E : XK) : Prop := ∀ d H', Same H H' → H d = none → H' d = some (.xd [("line", .int n)]) → E (.ref C) (some d) H'
theorem Bad.same {C : Addr} {n : Nat} {H H1 : Hp} {E : XK} (s : Same H H1) (b : Bad C n H E) : Bad C n H1 E := fun d H' s1 h1 h2 => b d H' (s.trans s1) (by
  cases e : H d with
  | none => rfl
  | some o =>
    rw [s _ _ e] at h1
    cases h1) h2
/-- raise BadLetter(n): the way out, once for all -/
theorem bad_made {C : Addr} {n : Nat} {H : Hp} {E : XK} (hn : n ≤ 100000) (q : Bad C n H E) :
    (fun vs H1 => vs.length ≤ 1000 ∧ ∀ (a : Addr), H1 a = none → spInit K C (V.ref a :: (vs ++ [])) (upd H1 a (exo a C none))
      (fun v H2 => v = V.non ∧ ∃ d fs, H2 a = some (exo a C (some d)) ∧ H2 d = some (exd d fs) ∧ H1 d = none ∧ (fun cls d H' => E cls d H') (Value.ref C) (some d) (upd (del H2 a) d (HO.xd fs)))
      fun _ _ _ => False) [V.int n] H := by
  refine ⟨by show 1 ≤ 1000; decide, fun a ha => ⟨a, n, rfl, upd_same, hn, fun dx h1 h2 => ⟨rfl, dx, [("line", .int n)], ?_, ?_, ?_, ?_⟩⟩⟩
  · exact upd_same
  · rw [upd_ne h2, upd_same]
  · rw [upd_ne h2] at h1
    exact h1
  · have h1' : H dx = none := by
      rw [upd_ne h2] at h1
      exact h1
    refine q dx _ (fun b o e => ?_) h1' upd_same
    have nb : b ≠ dx := ne_of_none e h1'
    have na : b ≠ a := ne_of_none e ha
    rw [upd_ne nb, del_ne na, upd_ne na, upd_ne nb, upd_ne na]
    exact e
/-! ### a word read -/
def spRead (C : Addr) : Sp := fun vs H Q E => ∃ (z : Str) (n : Nat), vs = [.str z, .int n] ∧ tl z ≠ [] ∧ z.length ≤ 100000 ∧ n ≤ 100000 ∧
  (∀ d, pw (tl z) = some d → ∀ H' x, Same H H' → Dt H' x d → Q x H') ∧ (pw (tl z) = none → Bad C n H E)
theorem ok_read_word (T : Top K mg) : FnOk P w K mg base (L2.CX P w) 3 T.a_read_word T.d_read_word ["word", "number"] (spRead T.C_BadLetter) := by
  have G_is_word := ok_is_word (P := P) (w := w) (base := base) T
  have G_is_number := ok_is_number (P := P) (w := w) (base := base) T
  have G_BadLetter___init__ := ok_init (P := P) (w := w) (base := base) T
  refine T.F_read_word.okX sc_read_word (fun vs H Q E h => ?_) (fun cdv A outer s H vs Q E hr h => ?_)
  · obtain ⟨z, n, rfl, _⟩ := h
    rfl
  · obtain ⟨z, n, rfl, hz, hl, hn, q1, q2⟩ := h
    refine ⟨_, (pss_cons (ps_if (pt_cmpR op_eq (pv 0) pe_str (nomark _))
    (pss_one (ps_ret pe_non))
    pss_nil)
    (pss_cons (ps_if (pt_val (pe_call G_is_number (hr.mono (by omega)) (by rfl) T.m_is_number T.F_is_number.kp T.b_is_number .nil pass0 (pa_cons (pv 0) pa_nil)))
    (pss_one (ps_ret (pe_callTy (call_int_big T.dig) (by rfl) T.m_int (by decide +kernel) (pa_cons (pv 0) pa_nil))))
    pss_nil)
    (pss_cons (ps_if (pt_val (pe_call G_is_word (hr.mono (by omega)) (by rfl) T.m_is_word T.F_is_word.kp T.b_is_word .nil pass0 (pa_cons (pv 0) pa_nil)))
    (pss_one (ps_ret (pv 0)))
    pss_nil)
    (pss_one (ps_raise rfl (takes_of rfl rfl rfl rfl) (pmk_oex T.E_BadLetter.ox T.i_BadLetter___init__ T.t_BadLetter___init__ G_BadLetter___init__ (hr.mono (by omega)) T.b_BadLetter___init__ .nil pass0 rfl T.m_BadLetter (pa_cons (pv 1) pa_nil))))))), ?_⟩
    have d1 : Str.ofString "-" = str [45] := ext_tl (by decide +kernel)
    walk_at "s"
    · rename_i e
      have ep : pw (tl z) = some .none := by
        unfold pw
        rw [e, d1, tl_str, if_pos rfl]
      exact q1 _ ep _ _ (Same.refl _) dt_none
    · rename_i e
      have n45 : tl z ≠ [45] := fun x => e (by rw [d1]; exact ext_tl x)
      intro H1 s1
      walk_at "s"
      · rename_i e1
        obtain ⟨a1, a2, a3⟩ := isNum_parts e1
        have l0 : z.length ≤ 4300 := by
          have := figs_len (tl z)
          rw [len_tl]
          omega
        have ep : pw (tl z) = some (.int (numV (tl z))) := by
          unfold pw
          rw [if_neg n45, if_pos e1]
        refine ⟨_, _, rfl, int_reads a1 a2 l0, sz_small (by omega), ?_⟩
        exact q1 _ ep _ _ s1 (dt_int _)
      · rename_i e1
        intro H2 s2
        walk_at "s"
        · rename_i e2
          have ep : pw (tl z) = some (.str z) := by
            unfold pw
            rw [if_neg n45, if_neg e1, if_pos e2, str_tl]
          exact q1 _ ep _ _ (s1.trans s2) (dt_str _)
        · rename_i e2
          have ep : pw (tl z) = none := by
            unfold pw
            rw [if_neg n45, if_neg e1, if_neg e2]
          refine bad_made hn ?_
          exact ((q2 ep).same (s1.trans s2))
end
end K66W
set_option Elab.async false
set_option linter.all false
set_option maxRecDepth 100000
set_option maxHeartbeats 4000000
namespace K66W
open PySem PySem.Spec PyProof.Rows L2 TL LW PT
local macro_rules | `(tactic| walk_at "ne") => `(tactic| first
  | (with_reducible assumption)
  | exact Ne.symm (by assumption)
  | (with_reducible exact ne_of_none (by assumption) (by assumption))
  | (with_reducible exact (ne_of_none (by assumption) (by assumption)).symm)
  | (apply ne_of_none; (case h' => assumption); (case h => walk_at "hp"))
  | (apply Ne.symm; apply ne_of_none; (case h' => assumption); (case h => walk_at "hp")))
local macro_rules | `(tactic| walk_at "hp") => `(tactic| first
  | (with_reducible assumption)
  | exact upd_same
  | (with_reducible exact hp_new (by assumption) (by assumption))
  | (apply hp_new; (case n => assumption); (case h => walk_at "hp"))
  | (refine (upd_ne ?ne).trans ?hp; (case ne => walk_at "ne"); (case hp => walk_at "hp")))
local macro_rules | `(tactic| walk_at "sq") => `(tactic| first
  | ((with_reducible show SqL _ _ _ _); assumption)
  | ((with_reducible show SqT _ _ _ _); assumption)
  | exact SqL.of (by assumption)
  | exact SqL.of upd_same
  | exact SqT.of (by assumption)
  | exact SqT.of upd_same
  | (apply SqL.of; walk_at "hp")
  | (apply SqT.of; walk_at "hp"))
local macro_rules | `(tactic| walk_at "len") => `(tactic| first
  | (with_reducible assumption)
  | exact sz_small (by omega)
  | exact sz_less (by omega)
  | decide
  | (refine sz_small ?_; simp only [List.length_append, List.length_cons, List.length_nil, List.length_map, str_len]; omega)
  | (refine sz_less ?_; simp only [List.length_append, List.length_cons, List.length_nil, List.length_map, str_len]; omega))
local macro_rules | `(tactic| walk_at "cond") => `(tactic| first
  | omega
  | (split <;> omega)
  | (with_reducible assumption)
  | exact .inl ⟨by omega, by omega⟩
  | exact .inr ⟨by omega, by omega⟩
  | exact ⟨by omega, by omega⟩
  | (show (0 : Int) < _; omega)
  | (show (0 : Int) < _; decide +kernel)
  | exact ⟨by omega, by omega, by decide⟩
  | walk_at "len"
  | rfl
  | (show CMulW _ _; unfold CMulW; decide +kernel)
  | exact ⟨_, rfl⟩
  | decide +kernel
  | exact ⟨_, by walk_at "sq"⟩
  | exact .inl ⟨rfl, _, by walk_at "sq"⟩)
local macro_rules | `(tactic| walk_at "at") => `(tactic| first
  | (with_reducible assumption)
  | exact atI_nat (by assumption)
  | exact atI_last _ _
  | exact atI_nat (j := 0) rfl
  | exact atI_nat (j := 1) rfl
  | exact atI_nat (j := 2) rfl
  | exact atI_nat (j := 3) rfl
  | exact atI_nat (j := 4) rfl)
local macro_rules | `(tactic| walk_at "ix") => `(tactic| first
  | (with_reducible assumption)
  | (with_reducible exact ixN_0 (by simp; done))
  | (with_reducible exact ixN_1 (by simp; done))
  | (with_reducible exact ixN_2 (by simp; done))
  | (with_reducible exact Evl.ixN_nat (by assumption))
  | (with_reducible exact Evl.ixN_nat (by omega)))
local macro_rules | `(tactic| walk_at "v") => `(tactic| first
  | exact val_var rfl
  | (with_reducible exact val_c)
  | (with_reducible apply val_orV; (case ha => walk_at "v"); (case hb => walk_at "v"))
  | (with_reducible apply val_andV; (case ha => walk_at "v"); (case hb => walk_at "v"))
  | (with_reducible apply val_notV; walk_at "v")
  | (with_reducible apply val_ifS; (case h => walk_at "w"); (case ha => walk_at "v"); (case hb => walk_at "v"))
  | (with_reducible apply val_ifI; (case h => walk_at "w"); (case ha => walk_at "v"); (case hb => walk_at "v"))
  | (with_reducible apply val_ifB; (case h => walk_at "w"); (case ha => walk_at "v"); (case hb => walk_at "v"))
  | (with_reducible apply val_eqS; (case ha => walk_at "v"); (case hb => walk_at "v"))
  | (with_reducible apply val_eqI; (case ha => walk_at "v"); (case hb => walk_at "v"))
  | (with_reducible apply val_neS; (case ha => walk_at "v"); (case hb => walk_at "v"))
  | (with_reducible apply val_neI; (case ha => walk_at "v"); (case hb => walk_at "v"))
  | (with_reducible apply val_op; (case ha => walk_at "v"); (case hb => walk_at "v"); (case hr => exact fun Q q => ⟨_, _, rfl, rfl, q⟩)))
local macro_rules | `(tactic| walk_at "w") => `(tactic| first
  | (with_reducible apply ans_or2; (case h1 => walk_at "w"); (case h2 => walk_at "w"))
  | (with_reducible apply ans_and2; (case h1 => walk_at "w"); (case h2 => walk_at "w"))
  | (with_reducible apply ans_not; walk_at "w")
  | (with_reducible apply ans_test; walk_at "v")
  | (with_reducible apply ans_val; walk_at "v"))
local macro_rules | `(tactic| walk_at "s2") => `(tactic| first
  | refine ⟨_, rfl, ?_⟩
  | refine ⟨_, _, rfl, rfl, ?_⟩
  | (refine And.intro ?cc ?_; (case cc => walk_at "cond"))
  | refine ⟨_, _, _, _, rfl, rfl, by walk_at "sq", by walk_at "at", ?_⟩
  | refine ⟨_, _, _, _, rfl, rfl, by walk_at "hp", by walk_at "ix", ?_⟩
  | refine ⟨_, _, _, _, rfl, rfl, by walk_at "hp", by walk_at "hp", by walk_at "len", ?_⟩
  | refine ⟨_, _, _, rfl, rfl, by walk_at "len", by walk_at "at", ?_⟩
  | refine ⟨_, _, _, rfl, rfl, by walk_at "hp", by walk_at "len", ?_⟩
  | refine ⟨_, _, _, rfl, rfl, by walk_at "hp", by walk_at "at", ?_⟩
  | refine ⟨_, _, rfl, rfl, by walk_at "sq", ?_⟩
  | refine ⟨_, _, rfl, rfl, by walk_at "len", ?_⟩
  | refine ⟨_, _, rfl, by walk_at "sq", ?_⟩
  | refine ⟨_, _, rfl, .inl (by walk_at "sq"), ?_⟩
  | refine ⟨_, _, rfl, .inr (by walk_at "sq"), ?_⟩
  | refine ⟨_, _, rfl, by walk_at "sq", rfl, ?_⟩
  | refine ⟨_, fun _ _ h => h, ?_⟩
  | refine .inl ⟨_, rfl, ?_⟩
  | refine ⟨_, _, .type "int", .type _, true, rfl, ClsV.ty _, .base (.int _), kit_ty (by decide +kernel), ?_⟩
  | refine ⟨_, _, .type "int", .type _, false, rfl, ClsV.ty _, .base (.int _), kit_ty (by decide +kernel), ?_⟩
  | refine ⟨_, _, .type "bool", .type _, true, rfl, ClsV.ty _, .base (.bl _), kit_ty (by decide +kernel), ?_⟩
  | refine ⟨_, _, .type "bool", .type _, false, rfl, ClsV.ty _, .base (.bl _), kit_ty (by decide +kernel), ?_⟩
  | refine ⟨_, _, .type "str", .type _, true, rfl, ClsV.ty _, .base (.str _), kit_ty (by decide +kernel), ?_⟩
  | refine ⟨_, _, .type "str", .type _, false, rfl, ClsV.ty _, .base (.str _), kit_ty (by decide +kernel), ?_⟩
  | refine ⟨_, _, .type "NoneType", .type _, true, rfl, ClsV.ty _, .base (.non), kit_ty (by decide +kernel), ?_⟩
  | refine ⟨_, _, .type "NoneType", .type _, false, rfl, ClsV.ty _, .base (.non), kit_ty (by decide +kernel), ?_⟩
  | refine ⟨_, _, .type "list", .type _, true, rfl, ClsV.ty _, .base (.lst (by walk_at "hp")), kit_ty (by decide +kernel), ?_⟩
  | refine ⟨_, _, .type "list", .type _, false, rfl, ClsV.ty _, .base (.lst (by walk_at "hp")), kit_ty (by decide +kernel), ?_⟩
  | refine ⟨_, _, .type "tuple", .type _, true, rfl, ClsV.ty _, .base (.tup (by walk_at "hp")), kit_ty (by decide +kernel), ?_⟩
  | refine ⟨_, _, .type "tuple", .type _, false, rfl, ClsV.ty _, .base (.tup (by walk_at "hp")), kit_ty (by decide +kernel), ?_⟩
  | fail)
local macro_rules | `(tactic| walk_at "s1") => `(tactic| first
  | (with_reducible refine go_gcons ?_)
  | (with_reducible refine go_gnil ?_)
  | (with_reducible refine go_seqM ?_)
  | (with_reducible refine go_nextM ?_)
  | (with_reducible refine go_contM ?_)
  | (with_reducible refine go_brkM ?_)
  | (with_reducible refine go_retM ?_)
  | (with_reducible refine go_asgM ?_)
  | (with_reducible refine go_test ?_)
  | (with_reducible refine go_rI0 ?_)
  | (with_reducible refine go_op ?_)
  | (with_reducible refine go_var rfl ?_)
  | ((with_reducible show tFor (iRng1 _) _ _ _ _ _); refine (show iRng1 _ _ _ _ from ?_))
  | (with_reducible refine go_rng1 ?_)
  | (with_reducible refine go_c ?_)
  | (with_reducible apply go_pick; (case hs => walk_at "hp"); (case h0 => walk_at "cond"); (case h1 => walk_at "cond"); (case' q => intro k a b c h0 h1))
  | (with_reducible refine go_nil ?_)
  | (with_reducible refine go_cons ?_)
  | (with_reducible refine go_call ?_)
  | (with_reducible refine go_cb ?_)
  | (with_reducible refine go_next ?_)
  | (with_reducible refine go_cont ?_)
  | (with_reducible refine go_ret ?_)
  | (with_reducible refine go_name ?_)
  | (with_reducible refine go_seq ?_)
  | (with_reducible refine go_asg ?_)
  | (with_reducible apply go_or; (case h => walk_at "v"))
  | (with_reducible apply go_and; (case h => walk_at "v"))
  | (with_reducible apply go_andL; (case h => walk_at "v"); (case' h1 => intro e); (case' h2 => intro e))
  | (with_reducible apply go_orL; (case h => walk_at "v"); (case' h1 => intro e); (case' h2 => intro e))
  | (with_reducible apply go_ifE; (case h => walk_at "v"))
  | (with_reducible apply go_ifOr; (case h => walk_at "w"); (case' h1 => intro e); (case' h2 => intro e))
  | (with_reducible apply go_ifAnd; (case h => walk_at "w"); (case' h1 => intro e); (case' h2 => intro e))
  | (with_reducible refine go_min ?_)
  | (with_reducible refine iteT ?_)
  | (with_reducible refine iteF ?_)
  | (with_reducible refine iteD (fun _ => ?_) (fun e => absurd rfl e))
  | (with_reducible refine iteS (fun e => ?_) (fun e => ?_))
  | (with_reducible refine iteI (fun e => ?_) (fun e => ?_))
  | (with_reducible refine iteSn (fun e => ?_) (fun e => ?_))
  | (with_reducible refine iteIn (fun e => ?_) (fun e => ?_))
  | (with_reducible refine iteD (fun e => ?_) (fun e => ?_))
  | (with_reducible refine iteDn (fun e => ?_) (fun e => ?_))
  | (with_reducible refine ite2 (fun e => ?_) (fun e => ?_))
  | (refine fun (p : Addr) (hp : _ = none) => ?_)
  | ((conv => whnf); walk_at "s2")
  | fail)
local macro_rules | `(tactic| walk_at "s") => `(tactic| repeat' (first
  | (with_reducible refine go_gcons ?_)
  | (with_reducible refine go_gnil ?_)
  | (with_reducible refine go_seqM ?_)
  | (with_reducible refine go_nextM ?_)
  | (with_reducible refine go_contM ?_)
  | (with_reducible refine go_brkM ?_)
  | (with_reducible refine go_retM ?_)
  | (with_reducible refine go_asgM ?_)
  | (with_reducible refine go_test ?_)
  | (with_reducible refine go_rI0 ?_)
  | (with_reducible refine go_op ?_)
  | (with_reducible refine go_var rfl ?_)
  | ((with_reducible show tFor (iRng1 _) _ _ _ _ _); refine (show iRng1 _ _ _ _ from ?_))
  | (with_reducible refine go_rng1 ?_)
  | (with_reducible refine go_c ?_)
  | (with_reducible apply go_pick; (case hs => walk_at "hp"); (case h0 => walk_at "cond"); (case h1 => walk_at "cond"); (case' q => intro k a b c h0 h1))
  | (with_reducible refine go_nil ?_)
  | (with_reducible refine go_cons ?_)
  | (with_reducible refine go_call ?_)
  | (with_reducible refine go_cb ?_)
  | (with_reducible refine go_next ?_)
  | (with_reducible refine go_cont ?_)
  | (with_reducible refine go_ret ?_)
  | (with_reducible refine go_name ?_)
  | (with_reducible refine go_seq ?_)
  | (with_reducible refine go_asg ?_)
  | (with_reducible apply go_or; (case h => walk_at "v"))
  | (with_reducible apply go_and; (case h => walk_at "v"))
  | (with_reducible apply go_andL; (case h => walk_at "v"); (case' h1 => intro e); (case' h2 => intro e))
  | (with_reducible apply go_orL; (case h => walk_at "v"); (case' h1 => intro e); (case' h2 => intro e))
  | (with_reducible apply go_ifE; (case h => walk_at "v"))
  | (with_reducible apply go_ifOr; (case h => walk_at "w"); (case' h1 => intro e); (case' h2 => intro e))
  | (with_reducible apply go_ifAnd; (case h => walk_at "w"); (case' h1 => intro e); (case' h2 => intro e))
  | (with_reducible refine go_min ?_)
  | (with_reducible refine iteT ?_)
  | (with_reducible refine iteF ?_)
  | (with_reducible refine iteD (fun _ => ?_) (fun e => absurd rfl e))
  | (with_reducible refine iteS (fun e => ?_) (fun e => ?_))
  | (with_reducible refine iteI (fun e => ?_) (fun e => ?_))
  | (with_reducible refine iteSn (fun e => ?_) (fun e => ?_))
  | (with_reducible refine iteIn (fun e => ?_) (fun e => ?_))
  | (with_reducible refine iteD (fun e => ?_) (fun e => ?_))
  | (with_reducible refine iteDn (fun e => ?_) (fun e => ?_))
  | (with_reducible refine ite2 (fun e => ?_) (fun e => ?_))
  | (refine fun (p : Addr) (hp : _ = none) => ?_)
  | ((conv => whnf); walk_at "s2")
  | fail))

section
variable {P : Program} {w : World} {K : PySem.W.Frag} {mg : Str → Option Value} {base : Heap}
/-! ### a line read -/
def spRow (C : Addr) : Sp := fun vs H Q E => ∃ (z : Str) (n : Nat), vs = [.str z, .int n] ∧ z.length ≤ 40000 ∧ n ≤ 100000 ∧
  (∀ row, readL (tl z) = some row → ∀ H' a xs, Same H H' → H' a = some (.tup xs) → DtAll H' xs row → Q (.ref a) H') ∧ (readL (tl z) = none → Bad C n H E)
theorem ok_read_line (T : Top K mg) : FnOk P w K mg base (L2.CX P w) 4 T.a_read_line T.d_read_line ["line", "number"] (spRow T.C_BadLetter) := by
  have G_line_tokens := ok_line_tokens (P := P) (w := w) (base := base) T
  have G_read_word := ok_read_word (P := P) (w := w) (base := base) T
  have G_BadLetter___init__ := ok_init (P := P) (w := w) (base := base) T
  refine T.F_read_line.okX sc_read_line (fun vs H Q E h => ?_) (fun cdv A outer s H vs Q E hr h => ?_)
  · obtain ⟨z, n, rfl, _⟩ := h
    rfl
  · obtain ⟨z, n, rfl, hz, hn, q1, q2⟩ := h
    refine ⟨_, (pss_cons (ps_set (i := 2) sc_read_line.nd rfl (.inl rfl) (pe_call G_line_tokens (hr.mono (by omega)) (by rfl) T.m_line_tokens T.F_line_tokens.kp T.b_line_tokens .nil pass0 (pa_cons (pv 0) pa_nil)))
    (pss_cons (ps_if (PW.pt (pw_or (pt_cmpR op_isN (pv 2) pe_non (nomark _)) (pw_or1 (pt_cmpR op_eq (pe_callB call_len_seq (by rfl) T.m_len (by decide +kernel) (pa_cons (pv 2) pa_nil)) pe_int (nomark _)))))
    (pss_one (ps_raise rfl (takes_of rfl rfl rfl rfl) (pmk_oex T.E_BadLetter.ox T.i_BadLetter___init__ T.t_BadLetter___init__ G_BadLetter___init__ (hr.mono (by omega)) T.b_BadLetter___init__ .nil pass0 rfl T.m_BadLetter (pa_cons (pv 1) pa_nil))))
    pss_nil)
    (pss_cons (ps_set (i := 3) sc_read_line.nd rfl (.inl rfl) (pe_lst (pa_cons (pe_lst pa_nil) pa_nil)))
    (pss_cons (ps_for (passes_of rfl) rfl (pi_list (pv 2)) (pg_name (i := 4) sc_read_line.nd rfl (.inl rfl))
    (pss_one (ps_if (pt_cmpR op_eq (pv 4) pe_str (nomark _))
    (pss_cons (ps_if (pt_cmpR op_eq (pe_callB call_len_seq (by rfl) T.m_len (by decide +kernel) (pa_cons (pv 3) pa_nil)) pe_int (nomark _))
    (pss_one (ps_raise rfl (takes_of rfl rfl rfl rfl) (pmk_oex T.E_BadLetter.ox T.i_BadLetter___init__ T.t_BadLetter___init__ G_BadLetter___init__ (hr.mono (by omega)) T.b_BadLetter___init__ .nil pass0 rfl T.m_BadLetter (pa_cons (pv 1) pa_nil))))
    pss_nil)
    (pss_one (ps_expr (pe_bm PySem.F.plainAttrs_list PySem.F.slot_list_append PySem.F.type_list_append mt_append (pv 3) (pa_cons (pe_lst pa_nil) pa_nil)))))
    (pss_one (ps_if (pt_cmpR op_eq (pv 4) pe_str (nomark _))
    (pss_cons (ps_if (pt_cmpR op_eq (pe_callB call_len_seq (by rfl) T.m_len (by decide +kernel) (pa_cons (pv 3) pa_nil)) pe_int (nomark _))
    (pss_one (ps_raise rfl (takes_of rfl rfl rfl rfl) (pmk_oex T.E_BadLetter.ox T.i_BadLetter___init__ T.t_BadLetter___init__ G_BadLetter___init__ (hr.mono (by omega)) T.b_BadLetter___init__ .nil pass0 rfl T.m_BadLetter (pa_cons (pv 1) pa_nil))))
    pss_nil)
    (pss_cons (ps_set (i := 5) sc_read_line.nd rfl (.inl rfl) (pe_callTy call_tuple_of (by rfl) T.m_tuple (by decide +kernel) (pa_cons (pe_bm0 PySem.F.plainAttrs_list PySem.F.slot_list_pop PySem.F.type_list_pop mt_pop (pv 3)) pa_nil)))
    (pss_one (ps_expr (pe_bm PySem.F.plainAttrs_list PySem.F.slot_list_append PySem.F.type_list_append mt_append (pe_ix ix_list (pv 3) (pe_un un_neg pe_int) (fun _ _ => rfl)) (pa_cons (pv 5) pa_nil))))))
    (pss_one (ps_expr (pe_bm PySem.F.plainAttrs_list PySem.F.slot_list_append PySem.F.type_list_append mt_append (pe_ix ix_list (pv 3) (pe_un un_neg pe_int) (fun _ _ => rfl)) (pa_cons (pe_call G_read_word (hr.mono (by omega)) (by rfl) T.m_read_word T.F_read_word.kp T.b_read_word .nil (passes_call (takes_of rfl rfl rfl rfl) fun _ _ _ _ h => h) (pa_cons (pv 4) (pa_cons (pv 1) pa_nil))) pa_nil)))))))))
    (pss_cons (ps_if (pt_cmpR op_gt (pe_callB call_len_seq (by rfl) T.m_len (by decide +kernel) (pa_cons (pv 3) pa_nil)) pe_int (nomark _))
    (pss_one (ps_raise rfl (takes_of rfl rfl rfl rfl) (pmk_oex T.E_BadLetter.ox T.i_BadLetter___init__ T.t_BadLetter___init__ G_BadLetter___init__ (hr.mono (by omega)) T.b_BadLetter___init__ .nil pass0 rfl T.m_BadLetter (pa_cons (pv 1) pa_nil))))
    pss_nil)
    (pss_one (ps_ret (pe_callTy call_tuple_of (by rfl) T.m_tuple (by decide +kernel) (pa_cons (pe_ix ix_list (pv 3) pe_int (fun _ _ => rfl)) pa_nil))))))))), ?_⟩
    have many := tk_many (tl z) []
    have zl := len_tl z
    rw [List.length_nil, Nat.zero_add] at many
    walk_at "s"
    refine ⟨fun hl F H1 s1 nF hF => ?_, fun hl H1 s1 => ?_⟩
    · have hfl : ((tk [] (tl z)).map fun t => V.str (str t)).length ≤ 80000 := by
        rw [List.length_map]
        omega
      walk_at "s"
      · rename_i e
        cases e
      · rename_i e0 e
        have nil : tk [] (tl z) = [] := by
          rw [List.length_map] at e
          exact List.length_eq_zero_iff.mp (by omega)
        exact bad_made hn ((q2 (if_neg fun k => k.2 nil)).same s1)
      · rename_i e0 e p hp O hO
        have ne : tk [] (tl z) ≠ [] := fun k => e (by rw [k]; rfl)
        have rl : readL (tl z) = ps [[]] (tk [] (tl z)) := if_pos ⟨hl, ne⟩
        rw [rl] at q1 q2
        have good := tk_all (tl z) [] (by simp)
        have long : ∀ t ∈ tk [] (tl z), t.length ≤ 80000 := fun t ht => by
          have a := tk_sum (tl z) []
          have b : ∀ us : List (List Nat), t ∈ us → t.length ≤ (us.map fun t => t.length + 1).sum := fun us => by
            induction us with
            | nil => intro k; cases k
            | cons u us ih =>
              intro k
              rw [List.map_cons, List.sum_cons]
              rcases List.mem_cons.mp k with k | k
              · rw [k]
                omega
              · have := ih k
                omega
          have c := b _ ht
          rw [List.length_nil, Nat.zero_add] at a
          omega
        generalize tk [] (tl z) = ts at q1 q2 hF hfl ne good long
        have sO : Same H1 (upd (upd H1 p (.lst [])) O (.lst [V.ref p])) := same_mut (same_new hp) (by
          cases k : H1 O with
          | none => rfl
          | some o =>
            rw [same_new hp _ _ k] at hO
            cases hO)
        have nO : H1 O = none := by
          cases k : H1 O with
          | none => rfl
          | some o =>
            rw [same_new hp _ _ k] at hO
            cases hO
        have pO : p ≠ O := fun k => by
          rw [← k, upd_same] at hO
          cases hO
        refine for_listQ (xs := ts.map fun t => V.str (str t)) Q rfl (fun i σ H2 => ∃ (v4 v5 : Option V) (a : Addr) (as : List Addr) (l : List PyData) (st : List (List PyData)), σ = [some (.str z), some (.int n), some (.ref F), some (.ref O), v4, v5] ∧ Same H1 H2 ∧
          H2 O = some (.lst (as.reverse.map V.ref ++ [V.ref a])) ∧ O ∉ a :: as ∧ (∀ b ∈ a :: as, H1 b = none) ∧ Stk H2 (a :: as) (l :: st) ∧ st.length ≤ 11 ∧ (∀ r ∈ l :: st, r.length ≤ i) ∧ ps [[]] ts = ps (l :: st) (ts.drop i)) ?_ ?_ ?_ ?_
        · refine ⟨none, none, p, [], [], [], rfl, sO, upd_same, ?_, ?_, ?_, Nat.zero_le _, ?_, rfl⟩
          · intro k
            rw [List.mem_singleton] at k
            exact pO k.symm
          · intro b hb
            rw [List.mem_singleton] at hb
            rw [hb]
            exact hp
          · refine Stk.step (H := upd H1 p (.lst [])) (Ts.of (same_new hO)) (fun a _ o k => same_new hO _ _ k) ?_
            exact Stk.push (as := []) (st := []) trivial hp
          · intro r hr
            rw [List.mem_singleton] at hr
            rw [hr]
            exact Nat.le_refl _
        · intro i σ H2 hi hP
          obtain ⟨v4, v5, a, as, l, st, rfl, sm, _⟩ := hP
          exact SqL.of (sm _ _ hF)
        · intro N X i x σ H2 hi hP hN
          obtain ⟨v4, v5, a, as, l, st, rfl, sm, hO2, nin, fresh, stk, hst, short, hps⟩ := hP
          rw [List.getElem?_map] at hi
          obtain ⟨t, ht, rfl⟩ : ∃ t, ts[i]? = some t ∧ x = V.str (str t) := by
            cases k : ts[i]? with
            | none =>
              rw [k] at hi
              cases hi
            | some t =>
              rw [k] at hi
              exact ⟨t, rfl, (Option.some.inj hi).symm⟩
          have hil := (List.getElem?_eq_some_iff.mp ht).1
          have hd : ts.drop i = t :: ts.drop (i + 1) := by
            rw [List.drop_eq_getElem_cons hil]
            congr 1
            exact (List.getElem?_eq_some_iff.mp ht).2
          rw [hd] at hps
          have tm := List.mem_of_getElem? ht
          have tg := good t tm
          have tlen := long t tm
          have tsl : ts.length ≤ 80000 := by
            rw [List.length_map] at hfl
            exact hfl
          clear good long hfl
          have d40 : Str.ofString "(" = str [40] := ext_tl (by decide +kernel)
          have d41 : Str.ofString ")" = str [41] := ext_tl (by decide +kernel)
          have sl := stk.len
          rw [List.length_cons, List.length_cons] at sl
          have rl2 : (as.reverse.map V.ref ++ [V.ref a]).length = st.length + 1 := by
            rw [List.length_append, List.length_map, List.length_reverse, List.length_singleton]
            omega
          obtain ⟨xs, ha, hxs⟩ := stk.2.1
          have lxs : xs.length ≤ 80000 := by
            have := short l List.mem_cons_self
            rw [da_len hxs]
            omega
          walk_at "s"
          · rename_i e1 e2
            have et : t = [40] := (str_eq rfl).mp (e1.trans d40)
            subst et
            rw [ps_open, if_pos (by rw [List.length_cons]; omega)] at hps
            exact bad_made hn ((q2 hps).same (s1.trans sm))
          · rename_i e1 e2 p2 hp2
            have et : t = [40] := (str_eq rfl).mp (e1.trans d40)
            subst et
            rw [ps_open, if_neg (by rw [List.length_cons]; omega)] at hps
            have nO2 : p2 ≠ O := fun k => by
              rw [k, hO2] at hp2
              cases hp2
            have fr2 : H1 p2 = none := by
              cases k : H1 p2 with
              | none => rfl
              | some o =>
                rw [sm _ _ k] at hp2
                cases hp2
            refine hN _ _ ⟨some (.str (str [40])), v5, p2, a :: as, [], l :: st, rfl, same_mut (sm.trans (same_new hp2)) nO, ?_, ?_, ?_, ?_, ?_, ?_, ?_⟩
            · rw [upd_same, List.reverse_cons, List.map_append]
              rfl
            · intro k
              rcases List.mem_cons.mp k with k | k
              · exact nO2 k.symm
              · exact nin k
            · intro b hb
              rcases List.mem_cons.mp hb with hb | hb
              · rw [hb]
                exact fr2
              · exact fresh b hb
            · have sp2 := stk.push hp2
              have hO3 := same_new (o := .lst []) hp2 _ _ hO2
              refine sp2.step (Ts.upd hO3) fun b hb o k => ?_
              rw [upd_ne (fun z => ?_)]
              · exact k
              · rcases List.mem_cons.mp hb with hb | hb
                · exact nO2 (hb ▸ z)
                · exact nin (z ▸ hb)
            · rw [List.length_cons]
              omega
            · intro r hr
              rcases List.mem_cons.mp hr with hr | hr
              · rw [hr]
                exact Nat.zero_le _
              · exact Nat.le_succ_of_le (short r hr)
            · exact hps
          · rename_i e1 e2 e3
            have et : t = [41] := (str_eq rfl).mp (e2.trans d41)
            subst et
            have st0 : st = [] := List.length_eq_zero_iff.mp (by omega)
            subst st0
            rw [ps_close1] at hps
            exact bad_made hn ((q2 hps).same (s1.trans sm))
          · rename_i e1 e2 e3
            have et : t = [41] := (str_eq rfl).mp (e2.trans d41)
            subst et
            cases st with
            | nil => exact absurd (by rw [rl2]; rfl) e3
            | cons k st =>
              cases as with
              | nil => simp at sl
              | cons b as =>
                rw [ps_close] at hps
                obtain ⟨s1', s2', s3', s4'⟩ := stk
                obtain ⟨ys, hb, hys⟩ := s4'.2.1
                have ab : b ≠ a := fun k => s1' (by rw [k]; exact List.mem_cons_self)
                have aO : a ≠ O := fun k => nin (by rw [← k]; exact List.mem_cons_self)
                have bO : b ≠ O := fun k => nin (by rw [← k]; exact List.mem_cons_of_mem _ List.mem_cons_self)
                have lys : ys.length ≤ 80000 := by
                  have := short k (List.mem_cons_of_mem _ List.mem_cons_self)
                  rw [da_len hys]
                  omega
                refine ⟨O, _, .ref a, rfl, rfl, hO2, ?_, ?_⟩
                · rw [rl2, List.getElem?_append_right (by rw [List.length_map, List.length_reverse]; omega), List.length_map, List.length_reverse]
                  have z0 : (k :: st).length + 1 - 1 - (b :: as).length = 0 := by
                    rw [List.length_cons, List.length_cons] at sl ⊢
                    omega
                  rw [z0]
                  rfl
                · rw [List.dropLast_concat, List.reverse_cons, List.map_append]
                  have h3a : (upd H2 O (.lst (as.reverse.map V.ref ++ [b].map V.ref))) a = some (.lst xs) := by rw [upd_ne aO]; exact ha
                  have h3b : (upd H2 O (.lst (as.reverse.map V.ref ++ [b].map V.ref))) b = some (.lst ys) := by rw [upd_ne bO]; exact hb
                  have h3O : (upd H2 O (.lst (as.reverse.map V.ref ++ [b].map V.ref))) O = some (.lst (as.reverse.map V.ref ++ [.ref b])) := upd_same
                  have sm3 : Same H1 (upd H2 O (.lst (as.reverse.map V.ref ++ [b].map V.ref))) := same_mut sm nO
                  have t3 : Ts H2 (upd H2 O (.lst (as.reverse.map V.ref ++ [b].map V.ref))) := Ts.upd hO2
                  have stk3 : Stk (upd H2 O (.lst (as.reverse.map V.ref ++ [b].map V.ref))) (b :: as) (k :: st) := s4'.step t3 fun c hc o e => by
                    rw [upd_ne (fun z => nin (by rw [← z]; exact List.mem_cons_of_mem _ hc))]
                    exact e
                  have hxs3 := hxs.ts t3 _ _ s3'
                  generalize upd H2 O (.lst (as.reverse.map V.ref ++ [b].map V.ref)) = H3 at h3a h3b h3O sm3 t3 stk3 hxs3
                  refine ⟨a, xs, rfl, .inl ⟨SqL.of h3a, fun p hp => ?_⟩⟩
                  have s4 : Same H3 (upd H3 p (.tup xs)) := same_new hp
                  have h4b := s4 _ _ h3b
                  have h4O := s4 _ _ h3O
                  have h4p : (upd H3 p (.tup xs)) p = some (.tup xs) := upd_same
                  have stk4 : Stk (upd H3 p (.tup xs)) (b :: as) (k :: st) := stk3.step (Ts.of s4) fun c _ o e => s4 _ _ e
                  have dp : Dt (upd H3 p (.tup xs)) (.ref p) (.tuple l) := dt_tup h4p (hxs3.same s4)
                  have sm4 := sm3.trans s4
                  generalize upd H3 p (.tup xs) = H4 at s4 h4b h4O h4p stk4 dp sm4
                  walk_at "s"
                  have h5 := stk4.snoc h4b dp (by unfold fz; exact s3')
                  refine hN _ _ ⟨some (.str (str [41])), some (.ref p), b, as, k ++ [.tuple l], st, rfl, same_mut sm4 (fresh b (List.mem_cons_of_mem _ List.mem_cons_self)), ?_, ?_, ?_, h5, ?_, ?_, hps⟩
                  · rw [upd_ne (Ne.symm bO)]
                    exact h4O
                  · exact fun z => nin (List.mem_cons_of_mem _ z)
                  · exact fun c hc => fresh c (List.mem_cons_of_mem _ hc)
                  · rw [List.length_cons] at hst
                    omega
                  · intro r hr
                    rcases List.mem_cons.mp hr with hr | hr
                    · rw [hr, List.length_append, List.length_singleton]
                      have := short k (List.mem_cons_of_mem _ List.mem_cons_self)
                      omega
                    · exact Nat.le_succ_of_le (short r (List.mem_cons_of_mem _ (List.mem_cons_of_mem _ hr)))
          · rename_i e1 e2
            have n40 : t ≠ [40] := fun k => e1 (by rw [k, d40])
            have n41 : t ≠ [41] := fun k => e2 (by rw [k, d41])
            have wt : Word t := (tg.resolve_left n40).resolve_left n41
            refine ⟨str t, n, rfl, wt.1, by rw [str_len]; omega, hn, fun d hd2 H3 x sm3 hx => ?_, fun hd2 => ?_⟩
            · have ha3 := sm3 _ _ ha
              have hO3 := sm3 _ _ hO2
              have tl' : (tl (str t)) = t := rfl
              rw [tl'] at hd2
              rw [ps_word n40 n41 hd2] at hps
              walk_at "s"
              have stk3 : Stk H3 (a :: as) (l :: st) := stk.step (Ts.of sm3) fun c _ o e => sm3 _ _ e
              have aO : O ≠ a := fun k => nin (by rw [k]; exact List.mem_cons_self)
              refine hN _ _ ⟨some (.str (str t)), v5, a, as, l ++ [d], st, rfl, same_mut (sm.trans sm3) (fresh a List.mem_cons_self), ?_, nin, fresh, stk3.snoc ha3 hx (pw_ok hd2).1, hst, ?_, hps⟩
              · rw [upd_ne aO]
                exact hO3
              · intro r hr
                rcases List.mem_cons.mp hr with hr | hr
                · rw [hr, List.length_append, List.length_singleton]
                  have := short l List.mem_cons_self
                  omega
                · exact Nat.le_succ_of_le (short r (List.mem_cons_of_mem _ hr))
            · have tl' : (tl (str t)) = t := rfl
              rw [tl'] at hd2
              rw [ps_bad n40 n41 hd2] at hps
              exact (q2 hps).same (s1.trans sm)
        · intro σ H2 hP
          obtain ⟨v4, v5, a, as, l, st, rfl, sm, hO2, nin, fresh, stk, hst, short, hps⟩ := hP
          rw [List.length_map, List.drop_length] at hps
          have sl := stk.len
          rw [List.length_cons, List.length_cons] at sl
          have rl2 : (as.reverse.map V.ref ++ [V.ref a]).length = st.length + 1 := by
            rw [List.length_append, List.length_map, List.length_reverse, List.length_singleton]
            omega
          obtain ⟨xs, ha, hxs⟩ := stk.2.1
          walk_at "s"
          · rename_i e
            have ne1 : ps [[]] ts = none := by
              rw [hps]
              cases st with
              | nil =>
                rw [rl2] at e
                simp at e
              | cons _ _ => rfl
            exact bad_made hn ((q2 ne1).same (s1.trans sm))
          · rename_i e
            have st0 : st = [] := by
              cases st with
              | nil => rfl
              | cons x y =>
                rw [rl2, List.length_cons] at e
                omega
            subst st0
            have as0 : as = [] := List.length_eq_zero_iff.mp (by rw [List.length_nil] at sl; omega)
            subst as0
            refine ⟨O, _, 0, _, rfl, rfl, SqL.of hO2, atI_nat (j := 0) rfl, ?_⟩
            refine ⟨a, xs, rfl, .inl ⟨SqL.of ha, fun p hp => ?_⟩⟩
            exact q1 l hps _ p xs ((s1.trans sm).trans (same_new hp)) upd_same (hxs.same (same_new hp))
    · have e : readL (tl z) = none := if_neg fun k => hl k.1
      walk_at "s"
      exact bad_made hn ((q2 e).same s1)
end
end K66W
set_option Elab.async false
set_option linter.all false
set_option maxRecDepth 100000
set_option maxHeartbeats 4000000
namespace K66W
open PySem PySem.Spec PyProof.Rows L2 TL LW PT
local macro_rules | `(tactic| walk_at "ne") => `(tactic| first
  | (with_reducible assumption)
  | exact Ne.symm (by assumption)
  | (with_reducible exact ne_of_none (by assumption) (by assumption))
  | (with_reducible exact (ne_of_none (by assumption) (by assumption)).symm)
  | (apply ne_of_none; (case h' => assumption); (case h => walk_at "hp"))
  | (apply Ne.symm; apply ne_of_none; (case h' => assumption); (case h => walk_at "hp")))
local macro_rules | `(tactic| walk_at "hp") => `(tactic| first
  | (with_reducible assumption)
  | exact upd_same
  | (with_reducible exact hp_new (by assumption) (by assumption))
  | (apply hp_new; (case n => assumption); (case h => walk_at "hp"))
  | (refine (upd_ne ?ne).trans ?hp; (case ne => walk_at "ne"); (case hp => walk_at "hp")))
local macro_rules | `(tactic| walk_at "sq") => `(tactic| first
  | ((with_reducible show SqL _ _ _ _); assumption)
  | ((with_reducible show SqT _ _ _ _); assumption)
  | exact SqL.of (by assumption)
  | exact SqL.of upd_same
  | exact SqT.of (by assumption)
  | exact SqT.of upd_same
  | (apply SqL.of; walk_at "hp")
  | (apply SqT.of; walk_at "hp"))
local macro_rules | `(tactic| walk_at "len") => `(tactic| first
  | (with_reducible assumption)
  | exact sz_small (by omega)
  | exact sz_less (by omega)
  | decide
  | (refine sz_small ?_; simp only [List.length_append, List.length_cons, List.length_nil, List.length_map, str_len]; omega)
  | (refine sz_less ?_; simp only [List.length_append, List.length_cons, List.length_nil, List.length_map, str_len]; omega))
local macro_rules | `(tactic| walk_at "cond") => `(tactic| first
  | omega
  | (split <;> omega)
  | (with_reducible assumption)
  | exact .inl ⟨by omega, by omega⟩
  | exact .inr ⟨by omega, by omega⟩
  | exact ⟨by omega, by omega⟩
  | (show (0 : Int) < _; omega)
  | (show (0 : Int) < _; decide +kernel)
  | exact ⟨by omega, by omega, by decide⟩
  | walk_at "len"
  | rfl
  | (show CMulW _ _; unfold CMulW; decide +kernel)
  | exact ⟨_, rfl⟩
  | decide +kernel
  | exact ⟨_, by walk_at "sq"⟩
  | exact .inl ⟨rfl, _, by walk_at "sq"⟩)
local macro_rules | `(tactic| walk_at "at") => `(tactic| first
  | (with_reducible assumption)
  | exact atI_nat (by assumption)
  | exact atI_last _ _
  | exact atI_nat (j := 0) rfl
  | exact atI_nat (j := 1) rfl
  | exact atI_nat (j := 2) rfl
  | exact atI_nat (j := 3) rfl
  | exact atI_nat (j := 4) rfl)
local macro_rules | `(tactic| walk_at "ix") => `(tactic| first
  | (with_reducible assumption)
  | (with_reducible exact ixN_0 (by simp; done))
  | (with_reducible exact ixN_1 (by simp; done))
  | (with_reducible exact ixN_2 (by simp; done))
  | (with_reducible exact Evl.ixN_nat (by assumption))
  | (with_reducible exact Evl.ixN_nat (by omega)))
local macro_rules | `(tactic| walk_at "v") => `(tactic| first
  | exact val_var rfl
  | (with_reducible exact val_c)
  | (with_reducible apply val_orV; (case ha => walk_at "v"); (case hb => walk_at "v"))
  | (with_reducible apply val_andV; (case ha => walk_at "v"); (case hb => walk_at "v"))
  | (with_reducible apply val_notV; walk_at "v")
  | (with_reducible apply val_ifS; (case h => walk_at "w"); (case ha => walk_at "v"); (case hb => walk_at "v"))
  | (with_reducible apply val_ifI; (case h => walk_at "w"); (case ha => walk_at "v"); (case hb => walk_at "v"))
  | (with_reducible apply val_ifB; (case h => walk_at "w"); (case ha => walk_at "v"); (case hb => walk_at "v"))
  | (with_reducible apply val_eqS; (case ha => walk_at "v"); (case hb => walk_at "v"))
  | (with_reducible apply val_eqI; (case ha => walk_at "v"); (case hb => walk_at "v"))
  | (with_reducible apply val_neS; (case ha => walk_at "v"); (case hb => walk_at "v"))
  | (with_reducible apply val_neI; (case ha => walk_at "v"); (case hb => walk_at "v"))
  | (with_reducible apply val_op; (case ha => walk_at "v"); (case hb => walk_at "v"); (case hr => exact fun Q q => ⟨_, _, rfl, rfl, q⟩)))
local macro_rules | `(tactic| walk_at "w") => `(tactic| first
  | (with_reducible apply ans_or2; (case h1 => walk_at "w"); (case h2 => walk_at "w"))
  | (with_reducible apply ans_and2; (case h1 => walk_at "w"); (case h2 => walk_at "w"))
  | (with_reducible apply ans_not; walk_at "w")
  | (with_reducible apply ans_test; walk_at "v")
  | (with_reducible apply ans_val; walk_at "v"))
local macro_rules | `(tactic| walk_at "s2") => `(tactic| first
  | refine ⟨_, rfl, ?_⟩
  | refine ⟨_, _, rfl, rfl, ?_⟩
  | (refine And.intro ?cc ?_; (case cc => walk_at "cond"))
  | refine ⟨_, _, _, _, rfl, rfl, by walk_at "sq", by walk_at "at", ?_⟩
  | refine ⟨_, _, _, _, rfl, rfl, by walk_at "hp", by walk_at "ix", ?_⟩
  | refine ⟨_, _, _, _, rfl, rfl, by walk_at "hp", by walk_at "hp", by walk_at "len", ?_⟩
  | refine ⟨_, _, _, rfl, rfl, by walk_at "len", by walk_at "at", ?_⟩
  | refine ⟨_, _, _, rfl, rfl, by walk_at "hp", by walk_at "len", ?_⟩
  | refine ⟨_, _, _, rfl, rfl, by walk_at "hp", by walk_at "at", ?_⟩
  | refine ⟨_, _, rfl, rfl, by walk_at "sq", ?_⟩
  | refine ⟨_, _, rfl, rfl, by walk_at "len", ?_⟩
  | refine ⟨_, _, rfl, by walk_at "sq", ?_⟩
  | refine ⟨_, _, rfl, .inl (by walk_at "sq"), ?_⟩
  | refine ⟨_, _, rfl, .inr (by walk_at "sq"), ?_⟩
  | refine ⟨_, _, rfl, by walk_at "sq", rfl, ?_⟩
  | refine ⟨_, fun _ _ h => h, ?_⟩
  | refine .inl ⟨_, rfl, ?_⟩
  | refine ⟨_, _, .type "int", .type _, true, rfl, ClsV.ty _, .base (.int _), kit_ty (by decide +kernel), ?_⟩
  | refine ⟨_, _, .type "int", .type _, false, rfl, ClsV.ty _, .base (.int _), kit_ty (by decide +kernel), ?_⟩
  | refine ⟨_, _, .type "bool", .type _, true, rfl, ClsV.ty _, .base (.bl _), kit_ty (by decide +kernel), ?_⟩
  | refine ⟨_, _, .type "bool", .type _, false, rfl, ClsV.ty _, .base (.bl _), kit_ty (by decide +kernel), ?_⟩
  | refine ⟨_, _, .type "str", .type _, true, rfl, ClsV.ty _, .base (.str _), kit_ty (by decide +kernel), ?_⟩
  | refine ⟨_, _, .type "str", .type _, false, rfl, ClsV.ty _, .base (.str _), kit_ty (by decide +kernel), ?_⟩
  | refine ⟨_, _, .type "NoneType", .type _, true, rfl, ClsV.ty _, .base (.non), kit_ty (by decide +kernel), ?_⟩
  | refine ⟨_, _, .type "NoneType", .type _, false, rfl, ClsV.ty _, .base (.non), kit_ty (by decide +kernel), ?_⟩
  | refine ⟨_, _, .type "list", .type _, true, rfl, ClsV.ty _, .base (.lst (by walk_at "hp")), kit_ty (by decide +kernel), ?_⟩
  | refine ⟨_, _, .type "list", .type _, false, rfl, ClsV.ty _, .base (.lst (by walk_at "hp")), kit_ty (by decide +kernel), ?_⟩
  | refine ⟨_, _, .type "tuple", .type _, true, rfl, ClsV.ty _, .base (.tup (by walk_at "hp")), kit_ty (by decide +kernel), ?_⟩
  | refine ⟨_, _, .type "tuple", .type _, false, rfl, ClsV.ty _, .base (.tup (by walk_at "hp")), kit_ty (by decide +kernel), ?_⟩
  | fail)
local macro_rules | `(tactic| walk_at "s1") => `(tactic| first
  | (with_reducible refine go_gcons ?_)
  | (with_reducible refine go_gnil ?_)
  | (with_reducible refine go_seqM ?_)
  | (with_reducible refine go_nextM ?_)
  | (with_reducible refine go_contM ?_)
  | (with_reducible refine go_brkM ?_)
  | (with_reducible refine go_retM ?_)
  | (with_reducible refine go_asgM ?_)
  | (with_reducible refine go_test ?_)
  | (with_reducible refine go_rI0 ?_)
  | (with_reducible refine go_op ?_)
  | (with_reducible refine go_var rfl ?_)
  | ((with_reducible show tFor (iRng1 _) _ _ _ _ _); refine (show iRng1 _ _ _ _ from ?_))
  | (with_reducible refine go_rng1 ?_)
  | (with_reducible refine go_c ?_)
  | (with_reducible apply go_pick; (case hs => walk_at "hp"); (case h0 => walk_at "cond"); (case h1 => walk_at "cond"); (case' q => intro k a b c h0 h1))
  | (with_reducible refine go_nil ?_)
  | (with_reducible refine go_cons ?_)
  | (with_reducible refine go_call ?_)
  | (with_reducible refine go_cb ?_)
  | (with_reducible refine go_next ?_)
  | (with_reducible refine go_cont ?_)
  | (with_reducible refine go_ret ?_)
  | (with_reducible refine go_name ?_)
  | (with_reducible refine go_seq ?_)
  | (with_reducible refine go_asg ?_)
  | (with_reducible apply go_or; (case h => walk_at "v"))
  | (with_reducible apply go_and; (case h => walk_at "v"))
  | (with_reducible apply go_andL; (case h => walk_at "v"); (case' h1 => intro e); (case' h2 => intro e))
  | (with_reducible apply go_orL; (case h => walk_at "v"); (case' h1 => intro e); (case' h2 => intro e))
  | (with_reducible apply go_ifE; (case h => walk_at "v"))
  | (with_reducible apply go_ifOr; (case h => walk_at "w"); (case' h1 => intro e); (case' h2 => intro e))
  | (with_reducible apply go_ifAnd; (case h => walk_at "w"); (case' h1 => intro e); (case' h2 => intro e))
  | (with_reducible refine go_min ?_)
  | (with_reducible refine iteT ?_)
  | (with_reducible refine iteF ?_)
  | (with_reducible refine iteD (fun _ => ?_) (fun e => absurd rfl e))
  | (with_reducible refine iteS (fun e => ?_) (fun e => ?_))
  | (with_reducible refine iteI (fun e => ?_) (fun e => ?_))
  | (with_reducible refine iteSn (fun e => ?_) (fun e => ?_))
  | (with_reducible refine iteIn (fun e => ?_) (fun e => ?_))
  | (with_reducible refine iteD (fun e => ?_) (fun e => ?_))
  | (with_reducible refine iteDn (fun e => ?_) (fun e => ?_))
  | (with_reducible refine ite2 (fun e => ?_) (fun e => ?_))
  | (refine fun (p : Addr) (hp : _ = none) => ?_)
  | ((conv => whnf); walk_at "s2")
  | fail)
local macro_rules | `(tactic| walk_at "s") => `(tactic| repeat' (first
  | (with_reducible refine go_gcons ?_)
  | (with_reducible refine go_gnil ?_)
  | (with_reducible refine go_seqM ?_)
  | (with_reducible refine go_nextM ?_)
  | (with_reducible refine go_contM ?_)
  | (with_reducible refine go_brkM ?_)
  | (with_reducible refine go_retM ?_)
  | (with_reducible refine go_asgM ?_)
  | (with_reducible refine go_test ?_)
  | (with_reducible refine go_rI0 ?_)
  | (with_reducible refine go_op ?_)
  | (with_reducible refine go_var rfl ?_)
  | ((with_reducible show tFor (iRng1 _) _ _ _ _ _); refine (show iRng1 _ _ _ _ from ?_))
  | (with_reducible refine go_rng1 ?_)
  | (with_reducible refine go_c ?_)
  | (with_reducible apply go_pick; (case hs => walk_at "hp"); (case h0 => walk_at "cond"); (case h1 => walk_at "cond"); (case' q => intro k a b c h0 h1))
  | (with_reducible refine go_nil ?_)
  | (with_reducible refine go_cons ?_)
  | (with_reducible refine go_call ?_)
  | (with_reducible refine go_cb ?_)
  | (with_reducible refine go_next ?_)
  | (with_reducible refine go_cont ?_)
  | (with_reducible refine go_ret ?_)
  | (with_reducible refine go_name ?_)
  | (with_reducible refine go_seq ?_)
  | (with_reducible refine go_asg ?_)
  | (with_reducible apply go_or; (case h => walk_at "v"))
  | (with_reducible apply go_and; (case h => walk_at "v"))
  | (with_reducible apply go_andL; (case h => walk_at "v"); (case' h1 => intro e); (case' h2 => intro e))
  | (with_reducible apply go_orL; (case h => walk_at "v"); (case' h1 => intro e); (case' h2 => intro e))
  | (with_reducible apply go_ifE; (case h => walk_at "v"))
  | (with_reducible apply go_ifOr; (case h => walk_at "w"); (case' h1 => intro e); (case' h2 => intro e))
  | (with_reducible apply go_ifAnd; (case h => walk_at "w"); (case' h1 => intro e); (case' h2 => intro e))
  | (with_reducible refine go_min ?_)
  | (with_reducible refine iteT ?_)
  | (with_reducible refine iteF ?_)
  | (with_reducible refine iteD (fun _ => ?_) (fun e => absurd rfl e))
  | (with_reducible refine iteS (fun e => ?_) (fun e => ?_))
  | (with_reducible refine iteI (fun e => ?_) (fun e => ?_))
  | (with_reducible refine iteSn (fun e => ?_) (fun e => ?_))
  | (with_reducible refine iteIn (fun e => ?_) (fun e => ?_))
  | (with_reducible refine iteD (fun e => ?_) (fun e => ?_))
  | (with_reducible refine iteDn (fun e => ?_) (fun e => ?_))
  | (with_reducible refine ite2 (fun e => ?_) (fun e => ?_))
  | (refine fun (p : Addr) (hp : _ = none) => ?_)
  | ((conv => whnf); walk_at "s2")
  | fail))

section
variable {P : Program} {w : World} {K : PySem.W.Frag} {mg : Str → Option Value} {base : Heap}
/-! ### a paper read -/
def spFrom (C : Addr) : Sp := fun vs H Q E => ∃ (x : Str), vs = [.str x] ∧ x.length ≤ 40000 ∧
  (∀ rows, told (tl x) = .inr rows → ∀ H' a xs, Same H H' → H' a = some (.tup xs) → DtAll H' xs (rows.map .tuple) → Q (.ref a) H') ∧ (∀ n, told (tl x) = .inl n → Bad C n H E)
theorem ok_paper_from (T : Top K mg) : FnOk P w K mg base (L2.CX P w) 5 T.a_paper_from T.d_paper_from ["text"] (spFrom T.C_BadLetter) := by
  have G_read_line := ok_read_line (P := P) (w := w) (base := base) T
  refine T.F_paper_from.okX sc_paper_from (fun vs H Q E h => ?_) (fun cdv A outer s H vs Q E hr h => ?_)
  · obtain ⟨x, rfl, _⟩ := h
    rfl
  · obtain ⟨x, rfl, hx, q1, q2⟩ := h
    refine ⟨_, (pss_cons (ps_if (pt_cmpR op_eq (pv 0) pe_str (nomark _))
    (pss_one (ps_ret (pe_tup pa_nil)))
    pss_nil)
    (pss_cons (ps_set (i := 1) sc_paper_from.nd rfl (.inr rfl) (pe_split (pv 0) pe_str))
    (pss_one (ps_ret (pe_callTy call_tuple_of (by rfl) T.m_tuple (by decide +kernel) (pa_cons (pe_lcX (own := [("at", 2)]) rfl rfl (takes_of rfl rfl rfl rfl) (fun _ _ _ _ h => h) rfl sc_paper_from.nd (pi_range1 rfl T.m_range (pa_cons (pe_callB call_len_seq (by rfl) T.m_len (by decide +kernel) (pa_cons (pv 1) pa_nil)) pa_nil)) (blkOk_by (own := [("at", 2)]) (N := ["text", "lines", "at"]) (sc := defScope s_paper_from) (by decide +kernel)) (fun _ _ _ _ _ => (pg_name (i := 2) sc_paper_from.nd rfl (.inl rfl))) (fun _ _ _ _ _ => pts_nil) (fun _ _ _ _ _ _ _ px => (pe_call G_read_line (hr.mono (by omega)) (by rfl) T.m_read_line T.F_read_line.kp T.b_read_line .nil px (pa_cons (pe_ix (ix_listB (K := K) rfl) (pv 1) (pv 2) (fun _ _ => rfl)) (pa_cons (pe_op op_add (pv 2) pe_int) pa_nil))))) pa_nil)))))), ?_⟩
    have em : tl (Str.ofString "") = [] := by decide +kernel
    have fx : x.length ≤ sizeLine := sz_small (by omega)
    have nl0 : ((Str.ofString "\n").length == 0) = false := by decide +kernel
    have fx2 : x.length + 2 ≤ sizeLine := sz_small (by omega)
    have sp0 := nl_split x
    obtain ⟨c1, c2⟩ := spl1_len (s := 10) (tl x) []
    have xl := len_tl x
    have sl : ((Txt.split x (Str.ofString "\n")).map V.str).length ≤ 40001 := by
      rw [sp0, List.length_map, List.length_map]
      omega
    walk_at "s"
    · rename_i e p hp
      have ep : told (tl x) = .inr [] := if_pos (by rw [e, em])
      exact q1 _ ep _ _ [] (same_new hp) upd_same da_nil
    · rename_i e L hL D hD
      have ne : tl x ≠ [] := fun k => e (ext_tl (by rw [k, em]))
      have et : told (tl x) = rd (spl [10] 0 [] (tl x)) 1 := if_neg ne
      rw [et] at q1 q2
      rw [sp0] at hD sl ⊢
      generalize spl [10] 0 [] (tl x) = ls at q1 q2 hD sl c1 c2
      have hl0 : (upd H L (.lst ((ls.map str).map V.str))) L = some (.lst ((ls.map str).map V.str)) := upd_same
      have smL : Same H (upd H L (.lst ((ls.map str).map V.str))) := same_new hL
      have nD : H D = none := by
        cases k : H D with
        | none => rfl
        | some o =>
          rw [smL _ _ k] at hD
          cases hD
      generalize upd H L (.lst ((ls.map str).map V.str)) = HL at hl0 smL hD
      refine lc_range (lo := 0) (n := ((((ls.map str).map V.str).length : Int)).toNat) (fun j H2 => Same HL H2 ∧ ∃ (ys : List V) (rows : List (List PyData)), H2 D = some (.lst ys) ∧ DtAll H2 ys (rows.map .tuple) ∧ rows.map some = (ls.take j).map readL) ?_ ?_ ?_
      · exact ⟨same_new hD, [], [], upd_same, da_nil, rfl⟩
      · intro j H2 hj hP
        obtain ⟨sm, ys, rows, hD2, hys, hrows⟩ := hP
        rw [Int.toNat_natCast, List.length_map, List.length_map] at hj
        have hls : ls[j]? = some ls[j] := List.getElem?_eq_getElem hj
        have hat : atI ((ls.map str).map V.str) (j : Int) = some (.str (str ls[j])) := atI_nat (by rw [List.getElem?_map, List.getElem?_map, hls]; rfl)
        have hL2 := sm _ _ hl0
        have lj := c2 _ (List.mem_of_getElem? hls)
        have lsl : ls.length ≤ 40001 := by
          rw [List.length_map, List.length_map] at sl
          exact sl
        have ylen : ys.length = j := by
          have a := da_len hys
          have b := congrArg List.length hrows
          rw [List.length_map, List.length_map, List.length_take] at b
          rw [List.length_map] at a
          omega
        generalize ls[j] = l at hls hat lj
        simp only [Int.zero_add]
        walk_at "s"
        rw [List.length_nil, Nat.zero_add] at lj
        refine ⟨str l, j + 1, rfl, by rw [str_len]; omega, by omega, fun row e H3 a zs sm3 ha hz => ?_, fun e => ?_⟩
        · have e' : readL l = some row := e
          have hr2 : (rows ++ [row]).map some = (ls.take (j + 1)).map readL := by
            rw [List.take_add_one, hls, List.map_append, List.map_append, hrows]
            show _ ++ [some row] = _ ++ [readL l]
            rw [e']
          have hD3 := sm3 _ _ hD2
          have fz2 := rows_fz (rows_ok hr2)
          refine ⟨ys, hD3, sz_less (by omega), same_mut (sm.trans sm3) hD, ys ++ [.ref a], rows ++ [row], upd_same, ?_, hr2⟩
          refine DtAll.ts (Ts.upd hD3) _ _ fz2 ?_
          rw [List.map_append]
          exact da_app (hys.same sm3) (da_cons (dt_tup ha hz) da_nil)
        · have e' : readL l = none := e
          have eb := rd_bad (n := 1) hrows hls e'
          rw [Nat.add_comm] at eb
          exact (q2 _ eb).same (smL.trans sm)
      · intro H2 hP
        obtain ⟨sm, ys, rows, hD2, hys, hrows⟩ := hP
        rw [Int.toNat_natCast, List.length_map, List.length_map, List.take_length] at hrows
        have ep := rd_good (n := 1) hrows
        walk_at "s"
        refine ⟨D, ys, rfl, .inl ⟨SqL.of hD2, fun p hp => ?_⟩⟩
        exact q1 _ ep _ p ys ((smL.trans sm).trans (same_new hp)) upd_same (hys.same (same_new hp))
end
end K66W
set_option Elab.async false
set_option linter.all false
set_option maxRecDepth 100000
set_option maxHeartbeats 4000000
namespace K66W
open PySem PySem.Spec PyProof.Rows L2 TL LW PT
local macro_rules | `(tactic| walk_at "ne") => `(tactic| first
  | (with_reducible assumption)
  | exact Ne.symm (by assumption)
  | (with_reducible exact ne_of_none (by assumption) (by assumption))
  | (with_reducible exact (ne_of_none (by assumption) (by assumption)).symm)
  | (apply ne_of_none; (case h' => assumption); (case h => walk_at "hp"))
  | (apply Ne.symm; apply ne_of_none; (case h' => assumption); (case h => walk_at "hp")))
local macro_rules | `(tactic| walk_at "hp") => `(tactic| first
  | (with_reducible assumption)
  | exact upd_same
  | (with_reducible exact hp_new (by assumption) (by assumption))
  | (apply hp_new; (case n => assumption); (case h => walk_at "hp"))
  | (refine (upd_ne ?ne).trans ?hp; (case ne => walk_at "ne"); (case hp => walk_at "hp")))
local macro_rules | `(tactic| walk_at "sq") => `(tactic| first
  | ((with_reducible show SqL _ _ _ _); assumption)
  | ((with_reducible show SqT _ _ _ _); assumption)
  | exact SqL.of (by assumption)
  | exact SqL.of upd_same
  | exact SqT.of (by assumption)
  | exact SqT.of upd_same
  | (apply SqL.of; walk_at "hp")
  | (apply SqT.of; walk_at "hp"))
local macro_rules | `(tactic| walk_at "len") => `(tactic| first
  | (with_reducible assumption)
  | exact sz_small (by omega)
  | exact sz_less (by omega)
  | decide
  | (refine sz_small ?_; simp only [List.length_append, List.length_cons, List.length_nil, List.length_map, str_len]; omega)
  | (refine sz_less ?_; simp only [List.length_append, List.length_cons, List.length_nil, List.length_map, str_len]; omega))
local macro_rules | `(tactic| walk_at "cond") => `(tactic| first
  | omega
  | (split <;> omega)
  | (with_reducible assumption)
  | exact .inl ⟨by omega, by omega⟩
  | exact .inr ⟨by omega, by omega⟩
  | exact ⟨by omega, by omega⟩
  | (show (0 : Int) < _; omega)
  | (show (0 : Int) < _; decide +kernel)
  | exact ⟨by omega, by omega, by decide⟩
  | walk_at "len"
  | rfl
  | (show CMulW _ _; unfold CMulW; decide +kernel)
  | exact ⟨_, rfl⟩
  | decide +kernel
  | exact ⟨_, by walk_at "sq"⟩
  | exact .inl ⟨rfl, _, by walk_at "sq"⟩)
local macro_rules | `(tactic| walk_at "at") => `(tactic| first
  | (with_reducible assumption)
  | exact atI_nat (by assumption)
  | exact atI_last _ _
  | exact atI_nat (j := 0) rfl
  | exact atI_nat (j := 1) rfl
  | exact atI_nat (j := 2) rfl
  | exact atI_nat (j := 3) rfl
  | exact atI_nat (j := 4) rfl)
local macro_rules | `(tactic| walk_at "ix") => `(tactic| first
  | (with_reducible assumption)
  | (with_reducible exact ixN_0 (by simp; done))
  | (with_reducible exact ixN_1 (by simp; done))
  | (with_reducible exact ixN_2 (by simp; done))
  | (with_reducible exact Evl.ixN_nat (by assumption))
  | (with_reducible exact Evl.ixN_nat (by omega)))
local macro_rules | `(tactic| walk_at "v") => `(tactic| first
  | exact val_var rfl
  | (with_reducible exact val_c)
  | (with_reducible apply val_orV; (case ha => walk_at "v"); (case hb => walk_at "v"))
  | (with_reducible apply val_andV; (case ha => walk_at "v"); (case hb => walk_at "v"))
  | (with_reducible apply val_notV; walk_at "v")
  | (with_reducible apply val_ifS; (case h => walk_at "w"); (case ha => walk_at "v"); (case hb => walk_at "v"))
  | (with_reducible apply val_ifI; (case h => walk_at "w"); (case ha => walk_at "v"); (case hb => walk_at "v"))
  | (with_reducible apply val_ifB; (case h => walk_at "w"); (case ha => walk_at "v"); (case hb => walk_at "v"))
  | (with_reducible apply val_eqS; (case ha => walk_at "v"); (case hb => walk_at "v"))
  | (with_reducible apply val_eqI; (case ha => walk_at "v"); (case hb => walk_at "v"))
  | (with_reducible apply val_neS; (case ha => walk_at "v"); (case hb => walk_at "v"))
  | (with_reducible apply val_neI; (case ha => walk_at "v"); (case hb => walk_at "v"))
  | (with_reducible apply val_op; (case ha => walk_at "v"); (case hb => walk_at "v"); (case hr => exact fun Q q => ⟨_, _, rfl, rfl, q⟩)))
local macro_rules | `(tactic| walk_at "w") => `(tactic| first
  | (with_reducible apply ans_or2; (case h1 => walk_at "w"); (case h2 => walk_at "w"))
  | (with_reducible apply ans_and2; (case h1 => walk_at "w"); (case h2 => walk_at "w"))
  | (with_reducible apply ans_not; walk_at "w")
  | (with_reducible apply ans_test; walk_at "v")
  | (with_reducible apply ans_val; walk_at "v"))
local macro_rules | `(tactic| walk_at "s2") => `(tactic| first
  | refine ⟨_, rfl, ?_⟩
  | refine ⟨_, _, rfl, rfl, ?_⟩
  | (refine And.intro ?cc ?_; (case cc => walk_at "cond"))
  | refine ⟨_, _, _, _, rfl, rfl, by walk_at "sq", by walk_at "at", ?_⟩
  | refine ⟨_, _, _, _, rfl, rfl, by walk_at "hp", by walk_at "ix", ?_⟩
  | refine ⟨_, _, _, _, rfl, rfl, by walk_at "hp", by walk_at "hp", by walk_at "len", ?_⟩
  | refine ⟨_, _, _, rfl, rfl, by walk_at "len", by walk_at "at", ?_⟩
  | refine ⟨_, _, _, rfl, rfl, by walk_at "hp", by walk_at "len", ?_⟩
  | refine ⟨_, _, _, rfl, rfl, by walk_at "hp", by walk_at "at", ?_⟩
  | refine ⟨_, _, rfl, rfl, by walk_at "sq", ?_⟩
  | refine ⟨_, _, rfl, rfl, by walk_at "len", ?_⟩
  | refine ⟨_, _, rfl, by walk_at "sq", ?_⟩
  | refine ⟨_, _, rfl, .inl (by walk_at "sq"), ?_⟩
  | refine ⟨_, _, rfl, .inr (by walk_at "sq"), ?_⟩
  | refine ⟨_, _, rfl, by walk_at "sq", rfl, ?_⟩
  | refine ⟨_, fun _ _ h => h, ?_⟩
  | refine .inl ⟨_, rfl, ?_⟩
  | refine ⟨_, _, .type "int", .type _, true, rfl, ClsV.ty _, .base (.int _), kit_ty (by decide +kernel), ?_⟩
  | refine ⟨_, _, .type "int", .type _, false, rfl, ClsV.ty _, .base (.int _), kit_ty (by decide +kernel), ?_⟩
  | refine ⟨_, _, .type "bool", .type _, true, rfl, ClsV.ty _, .base (.bl _), kit_ty (by decide +kernel), ?_⟩
  | refine ⟨_, _, .type "bool", .type _, false, rfl, ClsV.ty _, .base (.bl _), kit_ty (by decide +kernel), ?_⟩
  | refine ⟨_, _, .type "str", .type _, true, rfl, ClsV.ty _, .base (.str _), kit_ty (by decide +kernel), ?_⟩
  | refine ⟨_, _, .type "str", .type _, false, rfl, ClsV.ty _, .base (.str _), kit_ty (by decide +kernel), ?_⟩
  | refine ⟨_, _, .type "NoneType", .type _, true, rfl, ClsV.ty _, .base (.non), kit_ty (by decide +kernel), ?_⟩
  | refine ⟨_, _, .type "NoneType", .type _, false, rfl, ClsV.ty _, .base (.non), kit_ty (by decide +kernel), ?_⟩
  | refine ⟨_, _, .type "list", .type _, true, rfl, ClsV.ty _, .base (.lst (by walk_at "hp")), kit_ty (by decide +kernel), ?_⟩
  | refine ⟨_, _, .type "list", .type _, false, rfl, ClsV.ty _, .base (.lst (by walk_at "hp")), kit_ty (by decide +kernel), ?_⟩
  | refine ⟨_, _, .type "tuple", .type _, true, rfl, ClsV.ty _, .base (.tup (by walk_at "hp")), kit_ty (by decide +kernel), ?_⟩
  | refine ⟨_, _, .type "tuple", .type _, false, rfl, ClsV.ty _, .base (.tup (by walk_at "hp")), kit_ty (by decide +kernel), ?_⟩
  | fail)
local macro_rules | `(tactic| walk_at "s1") => `(tactic| first
  | (with_reducible refine go_gcons ?_)
  | (with_reducible refine go_gnil ?_)
  | (with_reducible refine go_seqM ?_)
  | (with_reducible refine go_nextM ?_)
  | (with_reducible refine go_contM ?_)
  | (with_reducible refine go_brkM ?_)
  | (with_reducible refine go_retM ?_)
  | (with_reducible refine go_asgM ?_)
  | (with_reducible refine go_test ?_)
  | (with_reducible refine go_rI0 ?_)
  | (with_reducible refine go_op ?_)
  | (with_reducible refine go_var rfl ?_)
  | ((with_reducible show tFor (iRng1 _) _ _ _ _ _); refine (show iRng1 _ _ _ _ from ?_))
  | (with_reducible refine go_rng1 ?_)
  | (with_reducible refine go_c ?_)
  | (with_reducible apply go_pick; (case hs => walk_at "hp"); (case h0 => walk_at "cond"); (case h1 => walk_at "cond"); (case' q => intro k a b c h0 h1))
  | (with_reducible refine go_nil ?_)
  | (with_reducible refine go_cons ?_)
  | (with_reducible refine go_call ?_)
  | (with_reducible refine go_cb ?_)
  | (with_reducible refine go_next ?_)
  | (with_reducible refine go_cont ?_)
  | (with_reducible refine go_ret ?_)
  | (with_reducible refine go_name ?_)
  | (with_reducible refine go_seq ?_)
  | (with_reducible refine go_asg ?_)
  | (with_reducible apply go_or; (case h => walk_at "v"))
  | (with_reducible apply go_and; (case h => walk_at "v"))
  | (with_reducible apply go_andL; (case h => walk_at "v"); (case' h1 => intro e); (case' h2 => intro e))
  | (with_reducible apply go_orL; (case h => walk_at "v"); (case' h1 => intro e); (case' h2 => intro e))
  | (with_reducible apply go_ifE; (case h => walk_at "v"))
  | (with_reducible apply go_ifOr; (case h => walk_at "w"); (case' h1 => intro e); (case' h2 => intro e))
  | (with_reducible apply go_ifAnd; (case h => walk_at "w"); (case' h1 => intro e); (case' h2 => intro e))
  | (with_reducible refine go_min ?_)
  | (with_reducible refine iteT ?_)
  | (with_reducible refine iteF ?_)
  | (with_reducible refine iteD (fun _ => ?_) (fun e => absurd rfl e))
  | (with_reducible refine iteS (fun e => ?_) (fun e => ?_))
  | (with_reducible refine iteI (fun e => ?_) (fun e => ?_))
  | (with_reducible refine iteSn (fun e => ?_) (fun e => ?_))
  | (with_reducible refine iteIn (fun e => ?_) (fun e => ?_))
  | (with_reducible refine iteD (fun e => ?_) (fun e => ?_))
  | (with_reducible refine iteDn (fun e => ?_) (fun e => ?_))
  | (with_reducible refine ite2 (fun e => ?_) (fun e => ?_))
  | (refine fun (p : Addr) (hp : _ = none) => ?_)
  | ((conv => whnf); walk_at "s2")
  | fail)
local macro_rules | `(tactic| walk_at "s") => `(tactic| repeat' (first
  | (with_reducible refine go_gcons ?_)
  | (with_reducible refine go_gnil ?_)
  | (with_reducible refine go_seqM ?_)
  | (with_reducible refine go_nextM ?_)
  | (with_reducible refine go_contM ?_)
  | (with_reducible refine go_brkM ?_)
  | (with_reducible refine go_retM ?_)
  | (with_reducible refine go_asgM ?_)
  | (with_reducible refine go_test ?_)
  | (with_reducible refine go_rI0 ?_)
  | (with_reducible refine go_op ?_)
  | (with_reducible refine go_var rfl ?_)
  | ((with_reducible show tFor (iRng1 _) _ _ _ _ _); refine (show iRng1 _ _ _ _ from ?_))
  | (with_reducible refine go_rng1 ?_)
  | (with_reducible refine go_c ?_)
  | (with_reducible apply go_pick; (case hs => walk_at "hp"); (case h0 => walk_at "cond"); (case h1 => walk_at "cond"); (case' q => intro k a b c h0 h1))
  | (with_reducible refine go_nil ?_)
  | (with_reducible refine go_cons ?_)
  | (with_reducible refine go_call ?_)
  | (with_reducible refine go_cb ?_)
  | (with_reducible refine go_next ?_)
  | (with_reducible refine go_cont ?_)
  | (with_reducible refine go_ret ?_)
  | (with_reducible refine go_name ?_)
  | (with_reducible refine go_seq ?_)
  | (with_reducible refine go_asg ?_)
  | (with_reducible apply go_or; (case h => walk_at "v"))
  | (with_reducible apply go_and; (case h => walk_at "v"))
  | (with_reducible apply go_andL; (case h => walk_at "v"); (case' h1 => intro e); (case' h2 => intro e))
  | (with_reducible apply go_orL; (case h => walk_at "v"); (case' h1 => intro e); (case' h2 => intro e))
  | (with_reducible apply go_ifE; (case h => walk_at "v"))
  | (with_reducible apply go_ifOr; (case h => walk_at "w"); (case' h1 => intro e); (case' h2 => intro e))
  | (with_reducible apply go_ifAnd; (case h => walk_at "w"); (case' h1 => intro e); (case' h2 => intro e))
  | (with_reducible refine go_min ?_)
  | (with_reducible refine iteT ?_)
  | (with_reducible refine iteF ?_)
  | (with_reducible refine iteD (fun _ => ?_) (fun e => absurd rfl e))
  | (with_reducible refine iteS (fun e => ?_) (fun e => ?_))
  | (with_reducible refine iteI (fun e => ?_) (fun e => ?_))
  | (with_reducible refine iteSn (fun e => ?_) (fun e => ?_))
  | (with_reducible refine iteIn (fun e => ?_) (fun e => ?_))
  | (with_reducible refine iteD (fun e => ?_) (fun e => ?_))
  | (with_reducible refine iteDn (fun e => ?_) (fun e => ?_))
  | (with_reducible refine ite2 (fun e => ?_) (fun e => ?_))
  | (refine fun (p : Addr) (hp : _ = none) => ?_)
  | ((conv => whnf); walk_at "s2")
  | fail))

section
variable {P : Program} {w : World} {K : PySem.W.Frag} {mg : Str → Option Value} {base : Heap}
/-! ### a paper's text -/
def spPaperText : Sp := fun vs H Q _ => ∃ (x : V) (rows : List (List PyData)), vs = [x] ∧ Dt H x (.tuple (rows.map .tuple)) ∧ (∀ r ∈ rows, RmRow r) ∧ (paper rows).length ≤ 40000 ∧ ∀ H', Same H H' → Q (.str (str (paper rows))) H'
theorem join_text {S : Str} (n : Nat) (hS : tl S = [n]) (ws : List (List Nat)) : Txt.join S (ws.map str) = str (joinL [n] ws) := ext_tl (by
  rw [join_eq, tl_join, List.map_map, show (tl ∘ str : List Nat → List Nat) = id from rfl, List.map_id, hS])
theorem join_fits {S : Str} (n : Nat) (hS : tl S = [n]) (ws : List (List Nat)) (h : (joinL [n] ws).length ≤ 100000) : ((ws.map str).map (·.length)).sum + (ws.map str).length * S.length ≤ 16777216 := by
  have s : (ws.map List.length).sum + ws.length * 1 ≤ (joinL [n] ws).length + 1 := joinL_sum (S := [n]) ws
  rw [List.map_map, show (fun x : Str => x.length) ∘ str = List.length from funext str_len, List.length_map, len_tl S, hS, List.length_singleton]
  omega
theorem join_many (n : Nat) (ws : List (List Nat)) : ws.length ≤ (joinL [n] ws).length + 1 := by
  have s : (ws.map List.length).sum + ws.length * 1 ≤ (joinL [n] ws).length + 1 := joinL_sum (S := [n]) ws
  omega
theorem ok_paper_text (T : Top K mg) : FnOk P w K mg base CX0 14 T.a_paper_text T.d_paper_text ["paper"] spPaperText := by
  have G_member_text := ok_member_text (P := P) (w := w) (base := base) T 12
  refine T.F_paper_text.ok sc_paper_text (fun vs H Q E h => ?_) (fun cdv A outer s H vs Q E hr h => ?_)
  · obtain ⟨x, rows, rfl, _⟩ := h
    rfl
  · obtain ⟨x, rows, rfl, hx, hR, hl, q⟩ := h
    unfold Dt at hx
    obtain ⟨a, xs, rfl, ha, hxs⟩ := hx
    refine ⟨_, (pss_one (ps_ret (pe_join pe_str (pe_lc (own := [("row", 1)]) rfl sc_paper_text.nd (pi_tup (pv 0)) (blkOk_by (own := [("row", 1)]) (N := ["paper", "row", "one"]) (sc := defScope s_paper_text) (by decide +kernel)) (fun _ _ _ _ _ => (pg_name (i := 1) sc_paper_text.nd rfl (.inl rfl))) (fun _ _ _ _ _ => pts_nil) (fun _ _ _ _ _ => (pe_joinB (K := K) rfl pe_str (pe_lc (own := [("one", 2)]) rfl sc_paper_text.nd (pi_tupB (K := K) rfl (pv 1)) (blkOk_by (own := [("one", 2)]) (by kernel_rfl)) (fun _ _ _ _ _ => (pg_name (i := 2) sc_paper_text.nd rfl (.inl rfl))) (fun _ _ _ _ _ => pts_nil) (fun _ _ _ _ _ => (pe_call G_member_text (hr.mono (by omega)) (by rfl) T.m_member_text T.F_member_text.kp T.b_member_text .nil pass0 (pa_cons (pv 2) pa_nil)))))))))), ?_⟩
    have hxl := da_len hxs
    rw [List.length_map] at hxl
    have hb32 : tl (Str.ofString " ") = [32] := by decide +kernel
    have hb10 : tl (Str.ofString "\n") = [10] := by decide +kernel
    have hrl := join_many 10 (rows.map line)
    rw [List.length_map] at hrl
    have hl' : (joinL [10] (rows.map line)).length ≤ 40000 := hl
    walk_at "s"
    rename_i D hD
    refine lc_tup (xs := xs) (fun j H2 => Same H H2 ∧ H2 D = some (.lst ((((rows.take j).map line).map str).map V.str))) ?_ ?_ ?_ ?_
    · exact ⟨same_new hD, upd_same⟩
    · intro j H2 hj hP
      exact SqT.of (hP.1 _ _ ha)
    · intro j x H2 hj hP
      obtain ⟨sm, h1⟩ := hP
      have hjl := (List.getElem?_eq_some_iff.mp hj).1
      have hjr : j < rows.length := by omega
      have hdr : rows[j]? = some rows[j] := List.getElem?_eq_getElem hjr
      have hdi : (rows.map PyData.tuple)[j]? = some (.tuple rows[j]) := by rw [List.getElem?_map, hdr]; rfl
      obtain ⟨x', ex, hx'⟩ := da_get hxs hdi
      rw [hj] at ex
      cases ex
      obtain ⟨r1, r2, r3⟩ := hR _ (List.mem_of_getElem? hdr)
      have hjoin : (line rows[j]).length ≤ 40000 := Nat.le_trans (joinL_len (S := [10]) _ (List.mem_map_of_mem (List.mem_of_getElem? hdr))) hl'
      have hst : rows.take (j + 1) = rows.take j ++ [rows[j]] := by rw [List.take_add_one, hdr]; rfl
      generalize rows[j] = row at hx' r1 r2 r3 hjoin hst
      unfold Dt at hx'
      obtain ⟨b, ys, rfl, hb, hys⟩ := hx'
      have hb2 := sm _ _ hb
      have hys2 := hys.same sm
      have hyl := da_len hys
      have hwl := wrAll_len row
      have hwm := rmAll_wm row r1
      have hmany := join_many 32 (wrAll row)
      have hjoin' : (joinL [32] (wrAll row)).length ≤ 40000 := hjoin
      walk_at "s"
      rename_i D2 hD2
      refine lc_tup (xs := ys) (fun i H3 => Same H2 H3 ∧ H3 D2 = some (.lst ((((wrAll row).take i).map str).map V.str))) ?_ ?_ ?_ ?_
      · exact ⟨same_new hD2, upd_same⟩
      · intro i H3 hi hP
        exact SqT.of (hP.1 _ _ hb2)
      · intro i x H3 hi hP
        obtain ⟨sm3, h3⟩ := hP
        have hil := (List.getElem?_eq_some_iff.mp hi).1
        have hdi : row[i]? = some row[i] := List.getElem?_eq_getElem (by omega)
        obtain ⟨x', ex, hx'⟩ := da_get hys2 hdi
        rw [hi] at ex
        cases ex
        have hw := wrAll_get hdi
        walk_at "s"
        refine ⟨x, row[i], rfl, Dt.same sm3 _ _ hx', wmAll_get hwm hdi, by have := dep_get hdi; omega, Nat.le_trans (joinL_len (S := [32]) _ (List.mem_of_getElem? hw)) (by omega), fun H4 sm4 => ?_⟩
        have h4 := sm4 _ _ h3
        refine ⟨_, h4, ?_, same_mut (sm3.trans sm4) hD2, ?_⟩
        · rw [List.length_map, List.length_map, List.length_take]
          exact sz_less (by omega)
        · rw [upd_same, show (wrAll row).take (i + 1) = (wrAll row).take i ++ [wr row[i]] from by rw [List.take_add_one, hw]; rfl, List.map_append, List.map_append]
          rfl
      · intro H3 hP
        obtain ⟨sm3, h3⟩ := hP
        rw [hyl, ← hwl, List.take_length] at h3
        refine ⟨_, D2, (wrAll row).map str, rfl, rfl, .inl (SqL.of h3), join_fits 32 hb32 _ (by omega), ?_⟩
        rw [join_text 32 hb32]
        have h4 := sm3 _ _ h1
        refine ⟨_, h4, ?_, same_mut (sm.trans sm3) hD, ?_⟩
        · rw [List.length_map, List.length_map, List.length_map, List.length_take]
          exact sz_less (by omega)
        · rw [upd_same, hst, List.map_append, List.map_append, List.map_append]
          rfl
    · intro H2 hP
      obtain ⟨sm, h1⟩ := hP
      rw [hxl, List.take_length] at h1
      refine ⟨_, D, (rows.map line).map str, rfl, rfl, .inl (SqL.of h1), join_fits 10 hb10 _ (by omega), ?_⟩
      rw [join_text 10 hb10]
      exact q _ sm
/-! ### drawn numbers -/
/-- a source of digits -/
def Src (H : Hp) (s : Addr) : Prop := ∃ a b c : Int, H s = some (.lst [.int a, .int b, .int c])
def spNumber : Sp := fun vs H Q _ => ∃ (s : Addr) (limit : Int), vs = [.ref s, .int limit] ∧ Src H s ∧ 0 < limit ∧ ∀ (n : Int) H', 0 ≤ n → n < limit → But s H H' → Src H' s → Q (.int n) H'
theorem ok_number (T : Top K mg) : FnOk P w K mg base CX0 2 T.a_law_number T.d_law_number ["source", "limit"] spNumber := by
  have G_law_pick := ok_pick (P := P) (w := w) (base := base) T
  refine T.F_law_number.ok sc_law_number (fun vs H Q E h => ?_) (fun cdv A outer s H vs Q E hr h => ?_)
  · obtain ⟨s, limit, rfl, _⟩ := h
    rfl
  · obtain ⟨s, limit, rfl, ⟨a, b, c, hs⟩, h0, q⟩ := h
    refine ⟨_, (pss_cons (ps_if (pt_cmpR op_eq (pe_call G_law_pick (hr.mono (by omega)) (by rfl) T.m_law_pick T.F_law_pick.kp T.b_law_pick .nil pass0 (pa_cons (pv 0) (pa_cons pe_int pa_nil))) pe_int (nomark _))
    (pss_one (ps_ret (pe_call G_law_pick (hr.mono (by omega)) (by rfl) T.m_law_pick T.F_law_pick.kp T.b_law_pick .nil pass0 (pa_cons (pv 0) (pa_cons (pe_callB (call_min2 rfl) (by rfl) T.m_min (by decide +kernel) (pa_cons (pv 1) (pa_cons pe_int pa_nil))) pa_nil)))))
    pss_nil)
    (pss_cons (ps_set (i := 2) sc_law_number.nd rfl (.inl rfl) pe_int)
    (pss_cons (ps_for PassesOwn.never rfl (pi_range1 rfl T.m_range (pa_cons pe_int pa_nil)) (pg_name (i := 3) sc_law_number.nd rfl (.inl rfl))
    (pss_one (ps_set (i := 2) sc_law_number.nd rfl (.inl rfl) (pe_op op_add (pe_op op_mul (pv 2) pe_int) (pe_call G_law_pick (hr.mono (by omega)) (by rfl) T.m_law_pick T.F_law_pick.kp T.b_law_pick .nil pass0 (pa_cons (pv 0) (pa_cons pe_int pa_nil)))))))
    (pss_one (ps_ret (pe_op op_mod (pv 2) (pv 1))))))), ?_⟩
    walk_at "s"
    · rename_i k0 a1 b1 c1 k00 k01 e
      refine ⟨limit, 5, rfl, ?_⟩
      walk_at "s"
      rename_i k a2 b2 c2 k10 k11
      rw [upd_upd]
      exact q _ _ k10 (by split at k11 <;> omega) But.upd ⟨_, _, _, upd_same⟩
    · rename_i k0 a1 b1 c1 k00 k01 e
      refine for_rangeQ (lo := 0) (n := 6) Q rfl (fun i σ H2 => ∃ (f : Int) (v3 : Option V), σ = [some (.ref s), some (.int limit), some (.int f), v3] ∧ But s H H2 ∧ Src H2 s) ?_ ?_ ?_
      · exact ⟨_, _, rfl, But.upd, _, _, _, upd_same⟩
      · intro N X i σ H2 hi hP hN
        obtain ⟨f, v3, rfl, but, a2, b2, c2, hs2⟩ := hP
        walk_at "s"
        exact hN _ _ ⟨_, _, rfl, but.trans But.upd, _, _, _, upd_same⟩
      · intro σ H2 hP
        obtain ⟨f, v3, rfl, but, src⟩ := hP
        walk_at "s"
        exact q _ _ (Int.emod_nonneg _ (by omega)) (Int.emod_lt_of_pos _ h0) but src
/-! ### drawn orders -/
def spShuf : Sp := fun vs H Q _ => ∃ (s l : Addr) (xs : List V), vs = [.ref s, .ref l] ∧ Src H s ∧ H l = some (.lst xs) ∧ xs.length ≤ 100 ∧ ∀ (r : Addr) H' (ys : List V), But s H H' → H r = none → Src H' s → H' r = some (.lst ys) → ys.length = xs.length → (∀ y ∈ ys, y ∈ xs) → Q (.ref r) H'
theorem ok_shuf (T : Top K mg) : FnOk P w K mg base CX0 2 T.a_law_shuffled T.d_law_shuffled ["source", "things"] spShuf := by
  have G_law_pick := ok_pick (P := P) (w := w) (base := base) T
  refine T.F_law_shuffled.ok sc_law_shuffled (fun vs H Q E h => ?_) (fun cdv A outer s H vs Q E hr h => ?_)
  · obtain ⟨s, l, xs, rfl, _⟩ := h
    rfl
  · obtain ⟨s, l, xs, rfl, ⟨a, b, c, hs⟩, hl, hx, q⟩ := h
    refine ⟨_, (pss_cons (ps_set (i := 2) sc_law_shuffled.nd rfl (.inl rfl) (pe_callTy call_list_of (by rfl) T.m_list (by decide +kernel) (pa_cons (pv 1) pa_nil)))
    (pss_cons (ps_set (i := 3) sc_law_shuffled.nd rfl (.inl rfl) (pe_lst pa_nil))
    (pss_cons (ps_while PassesOwn.never (pt_cmpR op_gt (pe_callB call_len_seq (by rfl) T.m_len (by decide +kernel) (pa_cons (pv 2) pa_nil)) pe_int (nomark _))
    (pss_one (ps_expr (pe_bm PySem.F.plainAttrs_list PySem.F.slot_list_append PySem.F.type_list_append mt_append (pv 3) (pa_cons (pe_bm PySem.F.plainAttrs_list PySem.F.slot_list_pop PySem.F.type_list_pop mt_popAt (pv 2) (pa_cons (pe_call G_law_pick (hr.mono (by omega)) (by rfl) T.m_law_pick T.F_law_pick.kp T.b_law_pick .nil pass0 (pa_cons (pv 0) (pa_cons (pe_callB call_len_seq (by rfl) T.m_len (by decide +kernel) (pa_cons (pv 2) pa_nil)) pa_nil))) pa_nil)) pa_nil)))))
    (pss_one (ps_ret (pv 3)))))), ?_⟩
    walk_at "s"
    rename_i L hL F hF
    have nLF : L ≠ F := ne_of_none upd_same hF
    have nsL : s ≠ L := ne_of_none hs hL
    have hF0 : H F = none := by
      rw [upd_ne nLF.symm] at hF
      exact hF
    have nsF : s ≠ F := ne_of_none hs hF0
    refine ⟨fun m σ H2 => ∃ (ls fs : List V), σ = [some (.ref s), some (.ref l), some (.ref L), some (.ref F)] ∧ m = ls.length ∧ ls.length + fs.length = xs.length ∧ (∀ y ∈ ls, y ∈ xs) ∧ (∀ y ∈ fs, y ∈ xs) ∧ But s H H2 ∧ Src H2 s ∧ H2 L = some (.lst ls) ∧ H2 F = some (.lst fs), ⟨xs.length, xs, [], rfl, rfl, rfl, fun _ h => h, by simp, But.of ((same_new hL).trans (same_new hF)), ⟨a, b, c, hp_new (hp_new hs hL) hF⟩, hp_new upd_same hF, upd_same⟩, fun m σ H2 hP => ?_⟩
    obtain ⟨ls, fs, rfl, rfl, hlen, h1, h2, but, ⟨a2, b2, c2, hs2⟩, hL2, hF2⟩ := hP
    walk_at "s"
    · rename_i e k a3 b3 c3 k0 k1
      have hk : k.toNat < ls.length := by omega
      have hL3 : upd H2 s (.lst [.int a3, .int b3, .int c3]) L = some (.lst ls) := (upd_ne nsL.symm).trans hL2
      have hF3 : upd H2 s (.lst [.int a3, .int b3, .int c3]) F = some (.lst fs) := (upd_ne nsF.symm).trans hF2
      refine ⟨L, ls, k, k.toNat, ls[k.toNat], rfl, rfl, hL3, by omega, by omega, PySem.seqIndex_of k0 k1, List.getElem?_eq_getElem hk, ?_⟩
      have hF4 : upd (upd H2 s (.lst [.int a3, .int b3, .int c3])) L (.lst (ls.eraseIdx k.toNat)) F = some (.lst fs) := (upd_ne nLF.symm).trans hF3
      have el : (ls.eraseIdx k.toNat).length + 1 = ls.length := by
        rw [List.length_eraseIdx, if_pos hk]
        omega
      refine ⟨_, _, _, rfl, rfl, hF4, sz_less (by omega), ?_⟩
      refine ⟨(ls.eraseIdx k.toNat).length, by omega, ls.eraseIdx k.toNat, fs ++ [ls[k.toNat]], rfl, rfl, by rw [List.length_append, List.length_singleton]; omega, fun y hy => h1 y (List.mem_of_mem_eraseIdx hy), fun y hy => ?_, ?_, ⟨a3, b3, c3, ?_⟩, ?_, upd_same⟩
      · rcases List.mem_append.mp hy with hy | hy
        · exact h2 y hy
        · rw [List.mem_singleton] at hy
          rw [hy]
          exact h1 _ (List.getElem_mem hk)
      · exact but_mut (but_mut (but.trans But.upd) hL) hF0
      · rw [upd_ne nsF, upd_ne nsL, upd_same]
      · rw [upd_ne nLF, upd_same]
    · rename_i e
      have e0 : ls = [] := List.eq_nil_of_length_eq_zero (by omega)
      rw [e0, List.length_nil, Nat.zero_add] at hlen
      exact q F H2 fs but hF0 ⟨a2, b2, c2, hs2⟩ hF2 hlen h2
/-! ### a member within brackets -/
def spNest : Sp := fun vs H Q _ => ∃ (x : V) (d : PyData) (n : Nat), vs = [x, .int n] ∧ Dt H x d ∧ n ≤ 1000 ∧ ∀ y H', Same H H' → Dt H' y (nest d n) → Q y H'
theorem ok_nest (T : Top K mg) : FnOk P w K mg base CX0 1 T.a_law_nest T.d_law_nest ["member", "many"] spNest := by
  refine T.F_law_nest.ok sc_law_nest (fun vs H Q E h => ?_) (fun cdv A outer s H vs Q E hr h => ?_)
  · obtain ⟨x, d, n, rfl, _⟩ := h
    rfl
  · obtain ⟨x, d, n, rfl, hx, hn, q⟩ := h
    refine ⟨_, (pss_cons (ps_for PassesOwn.never rfl (pi_range1 rfl T.m_range (pa_cons (pv 1) pa_nil)) (pg_name (i := 2) sc_law_nest.nd rfl (.inl rfl))
    (pss_one (ps_set (i := 0) sc_law_nest.nd rfl (.inl rfl) (pe_tup (pa_cons (pv 0) pa_nil)))))
    (pss_one (ps_ret (pv 0)))), ?_⟩
    walk_at "s"
    refine for_rangeQ (lo := 0) (n := ((n : Int)).toNat) Q rfl (fun i σ H2 => ∃ (y : V) (v2 : Option V), σ = [some y, some (.int n), v2] ∧ Same H H2 ∧ Dt H2 y (nest d i)) ?_ ?_ ?_
    · exact ⟨_, _, rfl, Same.refl _, hx⟩
    · intro N X i σ H2 hi hP hN
      obtain ⟨y, v2, rfl, sm, hy⟩ := hP
      walk_at "s"
      rename_i p hp
      refine hN _ _ ⟨_, _, rfl, sm.trans (same_new hp), ?_⟩
      rw [nest_snoc]
      exact dt_tup upd_same (da_cons (Dt.same (same_new hp) _ _ hy) da_nil)
    · intro σ H2 hP
      obtain ⟨y, v2, rfl, sm, hy⟩ := hP
      walk_at "s"
      exact q _ _ sm (by rw [Int.toNat_natCast] at hy; exact hy)
/-! ### words of the grammar -/
def spGram : Sp := fun vs H Q _ => vs = [] ∧ ∀ (r : Addr) H' (ys : List Str), Same H H' → H r = none → H' r = some (.lst (ys.map V.str)) → Q (.ref r) H'
theorem ok_gram (T : Top K mg) : FnOk P w K mg base CX0 1 T.a_law_grammar T.d_law_grammar [] spGram := by
  refine T.F_law_grammar.ok sc_law_grammar (fun vs H Q E h => ?_) (fun cdv A outer s H vs Q E hr h => ?_)
  · obtain ⟨rfl, _⟩ := h
    rfl
  · obtain ⟨rfl, q⟩ := h
    refine ⟨_, (pss_one (ps_ret (pe_lst (pa_cons pe_str (pa_cons pe_str (pa_cons pe_str (pa_cons pe_str (pa_cons pe_str (pa_cons pe_str (pa_cons pe_str (pa_cons pe_str (pa_cons pe_str (pa_cons pe_str (pa_cons pe_str (pa_cons pe_str (pa_cons pe_str (pa_cons pe_str (pa_cons pe_str (pa_cons pe_str (pa_cons pe_str (pa_cons pe_str (pa_cons pe_str (pa_cons pe_str (pa_cons pe_str (pa_cons pe_str (pa_cons pe_str pa_nil)))))))))))))))))))))))))), ?_⟩
    walk_at "s"
    rename_i p hp
    exact q p _ ["kind", "given", "op", "mark", "gate", "need", "fun", "cell", "call", "say", "look", "ask", "room", "tell", "on", "loop", "as", "leave", "return", "end", "cost", "toll", "awake"] (same_new hp) hp upd_same
end
end K66W
set_option Elab.async false
set_option linter.all false
set_option maxRecDepth 100000
set_option maxHeartbeats 4000000
namespace K66W
open PySem PySem.Spec PyProof.Rows L2 TL LW PT
local macro_rules | `(tactic| walk_at "ne") => `(tactic| first
  | (with_reducible assumption)
  | exact Ne.symm (by assumption)
  | (with_reducible exact ne_of_none (by assumption) (by assumption))
  | (with_reducible exact (ne_of_none (by assumption) (by assumption)).symm)
  | (apply ne_of_none; (case h' => assumption); (case h => walk_at "hp"))
  | (apply Ne.symm; apply ne_of_none; (case h' => assumption); (case h => walk_at "hp")))
local macro_rules | `(tactic| walk_at "hp") => `(tactic| first
  | (with_reducible assumption)
  | exact upd_same
  | (with_reducible exact hp_new (by assumption) (by assumption))
  | (apply hp_new; (case n => assumption); (case h => walk_at "hp"))
  | (refine (upd_ne ?ne).trans ?hp; (case ne => walk_at "ne"); (case hp => walk_at "hp")))
local macro_rules | `(tactic| walk_at "sq") => `(tactic| first
  | ((with_reducible show SqL _ _ _ _); assumption)
  | ((with_reducible show SqT _ _ _ _); assumption)
  | exact SqL.of (by assumption)
  | exact SqL.of upd_same
  | exact SqT.of (by assumption)
  | exact SqT.of upd_same
  | (apply SqL.of; walk_at "hp")
  | (apply SqT.of; walk_at "hp"))
local macro_rules | `(tactic| walk_at "len") => `(tactic| first
  | (with_reducible assumption)
  | exact sz_small (by omega)
  | exact sz_less (by omega)
  | decide
  | (refine sz_small ?_; simp only [List.length_append, List.length_cons, List.length_nil, List.length_map, str_len]; omega)
  | (refine sz_less ?_; simp only [List.length_append, List.length_cons, List.length_nil, List.length_map, str_len]; omega))
local macro_rules | `(tactic| walk_at "cond") => `(tactic| first
  | omega
  | (split <;> omega)
  | (with_reducible assumption)
  | exact .inl ⟨by omega, by omega⟩
  | exact .inr ⟨by omega, by omega⟩
  | exact ⟨by omega, by omega⟩
  | (show (0 : Int) < _; omega)
  | (show (0 : Int) < _; decide +kernel)
  | exact ⟨by omega, by omega, by decide⟩
  | walk_at "len"
  | rfl
  | (show CMulW _ _; unfold CMulW; decide +kernel)
  | exact ⟨_, rfl⟩
  | decide +kernel
  | exact ⟨_, by walk_at "sq"⟩
  | exact .inl ⟨rfl, _, by walk_at "sq"⟩)
local macro_rules | `(tactic| walk_at "at") => `(tactic| first
  | (with_reducible assumption)
  | exact atI_nat (by assumption)
  | exact atI_last _ _
  | exact atI_nat (j := 0) rfl
  | exact atI_nat (j := 1) rfl
  | exact atI_nat (j := 2) rfl
  | exact atI_nat (j := 3) rfl
  | exact atI_nat (j := 4) rfl)
local macro_rules | `(tactic| walk_at "ix") => `(tactic| first
  | (with_reducible assumption)
  | (with_reducible exact ixN_0 (by simp; done))
  | (with_reducible exact ixN_1 (by simp; done))
  | (with_reducible exact ixN_2 (by simp; done))
  | (with_reducible exact Evl.ixN_nat (by assumption))
  | (with_reducible exact Evl.ixN_nat (by omega)))
local macro_rules | `(tactic| walk_at "v") => `(tactic| first
  | exact val_var rfl
  | (with_reducible exact val_c)
  | (with_reducible apply val_orV; (case ha => walk_at "v"); (case hb => walk_at "v"))
  | (with_reducible apply val_andV; (case ha => walk_at "v"); (case hb => walk_at "v"))
  | (with_reducible apply val_notV; walk_at "v")
  | (with_reducible apply val_ifS; (case h => walk_at "w"); (case ha => walk_at "v"); (case hb => walk_at "v"))
  | (with_reducible apply val_ifI; (case h => walk_at "w"); (case ha => walk_at "v"); (case hb => walk_at "v"))
  | (with_reducible apply val_ifB; (case h => walk_at "w"); (case ha => walk_at "v"); (case hb => walk_at "v"))
  | (with_reducible apply val_eqS; (case ha => walk_at "v"); (case hb => walk_at "v"))
  | (with_reducible apply val_eqI; (case ha => walk_at "v"); (case hb => walk_at "v"))
  | (with_reducible apply val_neS; (case ha => walk_at "v"); (case hb => walk_at "v"))
  | (with_reducible apply val_neI; (case ha => walk_at "v"); (case hb => walk_at "v"))
  | (with_reducible apply val_op; (case ha => walk_at "v"); (case hb => walk_at "v"); (case hr => exact fun Q q => ⟨_, _, rfl, rfl, q⟩)))
local macro_rules | `(tactic| walk_at "w") => `(tactic| first
  | (with_reducible apply ans_or2; (case h1 => walk_at "w"); (case h2 => walk_at "w"))
  | (with_reducible apply ans_and2; (case h1 => walk_at "w"); (case h2 => walk_at "w"))
  | (with_reducible apply ans_not; walk_at "w")
  | (with_reducible apply ans_test; walk_at "v")
  | (with_reducible apply ans_val; walk_at "v"))
local macro_rules | `(tactic| walk_at "s2") => `(tactic| first
  | refine ⟨_, rfl, ?_⟩
  | refine ⟨_, _, rfl, rfl, ?_⟩
  | (refine And.intro ?cc ?_; (case cc => walk_at "cond"))
  | refine ⟨_, _, _, _, rfl, rfl, by walk_at "sq", by walk_at "at", ?_⟩
  | refine ⟨_, _, _, _, rfl, rfl, by walk_at "hp", by walk_at "ix", ?_⟩
  | refine ⟨_, _, _, _, rfl, rfl, by walk_at "hp", by walk_at "hp", by walk_at "len", ?_⟩
  | refine ⟨_, _, _, rfl, rfl, by walk_at "len", by walk_at "at", ?_⟩
  | refine ⟨_, _, _, rfl, rfl, by walk_at "hp", by walk_at "len", ?_⟩
  | refine ⟨_, _, _, rfl, rfl, by walk_at "hp", by walk_at "at", ?_⟩
  | refine ⟨_, _, rfl, rfl, by walk_at "sq", ?_⟩
  | refine ⟨_, _, rfl, rfl, by walk_at "len", ?_⟩
  | refine ⟨_, _, rfl, by walk_at "sq", ?_⟩
  | refine ⟨_, _, rfl, .inl (by walk_at "sq"), ?_⟩
  | refine ⟨_, _, rfl, .inr (by walk_at "sq"), ?_⟩
  | refine ⟨_, _, rfl, by walk_at "sq", rfl, ?_⟩
  | refine ⟨_, fun _ _ h => h, ?_⟩
  | refine .inl ⟨_, rfl, ?_⟩
  | refine ⟨_, _, .type "int", .type _, true, rfl, ClsV.ty _, .base (.int _), kit_ty (by decide +kernel), ?_⟩
  | refine ⟨_, _, .type "int", .type _, false, rfl, ClsV.ty _, .base (.int _), kit_ty (by decide +kernel), ?_⟩
  | refine ⟨_, _, .type "bool", .type _, true, rfl, ClsV.ty _, .base (.bl _), kit_ty (by decide +kernel), ?_⟩
  | refine ⟨_, _, .type "bool", .type _, false, rfl, ClsV.ty _, .base (.bl _), kit_ty (by decide +kernel), ?_⟩
  | refine ⟨_, _, .type "str", .type _, true, rfl, ClsV.ty _, .base (.str _), kit_ty (by decide +kernel), ?_⟩
  | refine ⟨_, _, .type "str", .type _, false, rfl, ClsV.ty _, .base (.str _), kit_ty (by decide +kernel), ?_⟩
  | refine ⟨_, _, .type "NoneType", .type _, true, rfl, ClsV.ty _, .base (.non), kit_ty (by decide +kernel), ?_⟩
  | refine ⟨_, _, .type "NoneType", .type _, false, rfl, ClsV.ty _, .base (.non), kit_ty (by decide +kernel), ?_⟩
  | refine ⟨_, _, .type "list", .type _, true, rfl, ClsV.ty _, .base (.lst (by walk_at "hp")), kit_ty (by decide +kernel), ?_⟩
  | refine ⟨_, _, .type "list", .type _, false, rfl, ClsV.ty _, .base (.lst (by walk_at "hp")), kit_ty (by decide +kernel), ?_⟩
  | refine ⟨_, _, .type "tuple", .type _, true, rfl, ClsV.ty _, .base (.tup (by walk_at "hp")), kit_ty (by decide +kernel), ?_⟩
  | refine ⟨_, _, .type "tuple", .type _, false, rfl, ClsV.ty _, .base (.tup (by walk_at "hp")), kit_ty (by decide +kernel), ?_⟩
  | fail)
local macro_rules | `(tactic| walk_at "s1") => `(tactic| first
  | (with_reducible refine go_gcons ?_)
  | (with_reducible refine go_gnil ?_)
  | (with_reducible refine go_seqM ?_)
  | (with_reducible refine go_nextM ?_)
  | (with_reducible refine go_contM ?_)
  | (with_reducible refine go_brkM ?_)
  | (with_reducible refine go_retM ?_)
  | (with_reducible refine go_asgM ?_)
  | (with_reducible refine go_test ?_)
  | (with_reducible refine go_rI0 ?_)
  | (with_reducible refine go_op ?_)
  | (with_reducible refine go_var rfl ?_)
  | ((with_reducible show tFor (iRng1 _) _ _ _ _ _); refine (show iRng1 _ _ _ _ from ?_))
  | (with_reducible refine go_rng1 ?_)
  | (with_reducible refine go_c ?_)
  | (with_reducible apply go_pick; (case hs => walk_at "hp"); (case h0 => walk_at "cond"); (case h1 => walk_at "cond"); (case' q => intro k a b c h0 h1))
  | (with_reducible refine go_nil ?_)
  | (with_reducible refine go_cons ?_)
  | (with_reducible refine go_call ?_)
  | (with_reducible refine go_cb ?_)
  | (with_reducible refine go_next ?_)
  | (with_reducible refine go_cont ?_)
  | (with_reducible refine go_ret ?_)
  | (with_reducible refine go_name ?_)
  | (with_reducible refine go_seq ?_)
  | (with_reducible refine go_asg ?_)
  | (with_reducible apply go_or; (case h => walk_at "v"))
  | (with_reducible apply go_and; (case h => walk_at "v"))
  | (with_reducible apply go_andL; (case h => walk_at "v"); (case' h1 => intro e); (case' h2 => intro e))
  | (with_reducible apply go_orL; (case h => walk_at "v"); (case' h1 => intro e); (case' h2 => intro e))
  | (with_reducible apply go_ifE; (case h => walk_at "v"))
  | (with_reducible apply go_ifOr; (case h => walk_at "w"); (case' h1 => intro e); (case' h2 => intro e))
  | (with_reducible apply go_ifAnd; (case h => walk_at "w"); (case' h1 => intro e); (case' h2 => intro e))
  | (with_reducible refine go_min ?_)
  | (with_reducible refine iteT ?_)
  | (with_reducible refine iteF ?_)
  | (with_reducible refine iteD (fun _ => ?_) (fun e => absurd rfl e))
  | (with_reducible refine iteS (fun e => ?_) (fun e => ?_))
  | (with_reducible refine iteI (fun e => ?_) (fun e => ?_))
  | (with_reducible refine iteSn (fun e => ?_) (fun e => ?_))
  | (with_reducible refine iteIn (fun e => ?_) (fun e => ?_))
  | (with_reducible refine iteD (fun e => ?_) (fun e => ?_))
  | (with_reducible refine iteDn (fun e => ?_) (fun e => ?_))
  | (with_reducible refine ite2 (fun e => ?_) (fun e => ?_))
  | (refine fun (p : Addr) (hp : _ = none) => ?_)
  | ((conv => whnf); walk_at "s2")
  | fail)
local macro_rules | `(tactic| walk_at "s") => `(tactic| repeat' (first
  | (with_reducible refine go_gcons ?_)
  | (with_reducible refine go_gnil ?_)
  | (with_reducible refine go_seqM ?_)
  | (with_reducible refine go_nextM ?_)
  | (with_reducible refine go_contM ?_)
  | (with_reducible refine go_brkM ?_)
  | (with_reducible refine go_retM ?_)
  | (with_reducible refine go_asgM ?_)
  | (with_reducible refine go_test ?_)
  | (with_reducible refine go_rI0 ?_)
  | (with_reducible refine go_op ?_)
  | (with_reducible refine go_var rfl ?_)
  | ((with_reducible show tFor (iRng1 _) _ _ _ _ _); refine (show iRng1 _ _ _ _ from ?_))
  | (with_reducible refine go_rng1 ?_)
  | (with_reducible refine go_c ?_)
  | (with_reducible apply go_pick; (case hs => walk_at "hp"); (case h0 => walk_at "cond"); (case h1 => walk_at "cond"); (case' q => intro k a b c h0 h1))
  | (with_reducible refine go_nil ?_)
  | (with_reducible refine go_cons ?_)
  | (with_reducible refine go_call ?_)
  | (with_reducible refine go_cb ?_)
  | (with_reducible refine go_next ?_)
  | (with_reducible refine go_cont ?_)
  | (with_reducible refine go_ret ?_)
  | (with_reducible refine go_name ?_)
  | (with_reducible refine go_seq ?_)
  | (with_reducible refine go_asg ?_)
  | (with_reducible apply go_or; (case h => walk_at "v"))
  | (with_reducible apply go_and; (case h => walk_at "v"))
  | (with_reducible apply go_andL; (case h => walk_at "v"); (case' h1 => intro e); (case' h2 => intro e))
  | (with_reducible apply go_orL; (case h => walk_at "v"); (case' h1 => intro e); (case' h2 => intro e))
  | (with_reducible apply go_ifE; (case h => walk_at "v"))
  | (with_reducible apply go_ifOr; (case h => walk_at "w"); (case' h1 => intro e); (case' h2 => intro e))
  | (with_reducible apply go_ifAnd; (case h => walk_at "w"); (case' h1 => intro e); (case' h2 => intro e))
  | (with_reducible refine go_min ?_)
  | (with_reducible refine iteT ?_)
  | (with_reducible refine iteF ?_)
  | (with_reducible refine iteD (fun _ => ?_) (fun e => absurd rfl e))
  | (with_reducible refine iteS (fun e => ?_) (fun e => ?_))
  | (with_reducible refine iteI (fun e => ?_) (fun e => ?_))
  | (with_reducible refine iteSn (fun e => ?_) (fun e => ?_))
  | (with_reducible refine iteIn (fun e => ?_) (fun e => ?_))
  | (with_reducible refine iteD (fun e => ?_) (fun e => ?_))
  | (with_reducible refine iteDn (fun e => ?_) (fun e => ?_))
  | (with_reducible refine ite2 (fun e => ?_) (fun e => ?_))
  | (refine fun (p : Addr) (hp : _ = none) => ?_)
  | ((conv => whnf); walk_at "s2")
  | fail))

section
variable {P : Program} {w : World} {K : PySem.W.Frag} {mg : Str → Option Value} {base : Heap}
/-! ### drawn words -/
def abc : Str := Str.ofString "abcdefghijklmnopqrstuvwxyz"
theorem tl_abc : tl abc = (List.range 26).map fun k => 97 + k := by decide +kernel
theorem at_abc {k : Int} (h0 : 0 ≤ k) (h1 : k < 26) : atI abc.cps.toList k = some (97 + k.toNat) := by
  have e : atI abc.cps.toList ((k.toNat : Nat) : Int) = some (97 + k.toNat) := atI_tl (by
    rw [tl_abc, List.getElem?_map, List.getElem?_range (by omega)]
    rfl)
  rw [Int.toNat_of_nonneg h0] at e
  exact e
theorem small_abc {k : Int} (h1 : k < 26) : small (97 + k.toNat) = true := by
  unfold small
  have : 97 + k.toNat ≤ 122 := by omega
  simp [this]
def Sm (x : Str) : Prop := ∀ c ∈ tl x, small c = true
theorem sm_empty : Sm (Str.ofString "") := by
  have e : tl (Str.ofString "") = [] := by decide +kernel
  intro c hc
  rw [e] at hc
  cases hc
theorem sm_app {x y : Str} (hx : Sm x) (hy : Sm y) : Sm (x ++ y) := fun c hc => by
  rw [tl_append] at hc
  rcases List.mem_append.mp hc with hc | hc
  · exact hx c hc
  · exact hy c hc
theorem sm_sg {k : Int} (h1 : k < 26) : Sm (sg (97 + k.toNat)) := fun c hc => by
  have hc : c ∈ [97 + k.toNat] := hc
  rw [List.mem_singleton] at hc
  rw [hc]
  exact small_abc h1
theorem sm_cut {x : Str} {lo hi : Option Int} (hx : Sm x) : Sm (cutS x lo hi) := fun c hc => hx c (cut_mem hc)
theorem app_len (x y : Str) : (x ++ y).length = x.length + y.length := by rw [len_tl, tl_append, List.length_append, ← len_tl, ← len_tl]
theorem sg_len (c : Nat) : (sg c).length = 1 := rfl
def Wd (x : Str) : Prop := isWord (tl x) = true ∧ x.length ≤ 20
theorem wd_sm {a b : Str} {c : Nat} (ha : Sm a) (hb : Sm b) (hc : small c = true) (la : a.length ≤ 2) (lb : b.length ≤ 2) : Wd (a ++ sg c ++ b) := by
  refine ⟨?_, ?_⟩
  · rw [tl_append, tl_append]
    refine isWord_small (by show tl a ++ [c] ++ tl b ≠ []; simp) fun x hx => ?_
    rcases List.mem_append.mp hx with hx | hx
    · rcases List.mem_append.mp hx with hx | hx
      · exact ha x hx
      · have hx : x ∈ [c] := hx
        rw [List.mem_singleton] at hx
        rw [hx]
        exact hc
    · exact hb x hx
  · rw [app_len, app_len, sg_len]
    omega
theorem num_len {n : Nat} (h : n < 100) : (Str.ofString (toString ((n : Nat) : Int))).length ≤ 2 := by
  rw [len_tl, wr_nat]
  exact numL_len (by decide) h
theorem wd_num {b : Str} {k : Int} {n : Int} (hb : Sm b) (h1 : k < 26) (lb : b.length ≤ 2) (h0 : 0 ≤ n) (hn : n < 100) : Wd (sg (97 + k.toNat) ++ b ++ Str.ofString (toString n)) := by
  obtain ⟨m, rfl⟩ : ∃ m : Nat, n = (m : Int) := ⟨n.toNat, by omega⟩
  have l := num_len (n := m) (by omega)
  refine ⟨?_, ?_⟩
  · rw [tl_append, tl_append, wr_nat]
    show isWord ([97 + k.toNat] ++ tl b ++ numL m) = true
    refine isWord_of (t := tl b ++ numL m) (small_abc h1) fun x hx => ?_
    rcases List.mem_append.mp hx with hx | hx
    · exact .inl (hb x hx)
    · exact .inr (fig_of (numL_digits m x hx))
  · rw [app_len, app_len, sg_len]
    omega
theorem wd_x {x : Str} (h : isWord (tl x) = true) (hl : x.length ≤ 20) : isWord (tl (x ++ Str.ofString "x")) = true ∧ (x ++ Str.ofString "x").length ≤ 33 := by
  have e : tl (Str.ofString "x") = [120] := by decide +kernel
  refine ⟨?_, ?_⟩
  · rw [tl_append, e]
    exact isWord_x h
  · rw [app_len, len_tl (Str.ofString "x"), e]
    show x.length + 1 ≤ 33
    omega
def spWords : Sp := fun vs H Q _ => ∃ (s : Addr), vs = [.ref s, .int 2] ∧ Src H s ∧ ∀ (r : Addr) H' (ys : List Str), But s H H' → H r = none → Src H' s → H' r = some (.lst (ys.map V.str)) → ys.length = 2 → (∀ y ∈ ys, isWord (tl y) = true ∧ y.length ≤ 33) → Q (.ref r) H'
theorem ok_words (T : Top K mg) : FnOk P w K mg base CX0 3 T.a_law_words T.d_law_words ["source", "many"] spWords := by
  have G_law_pick := ok_pick (P := P) (w := w) (base := base) T
  have G_law_shuffled := ok_shuf (P := P) (w := w) (base := base) T
  have G_law_grammar := ok_gram (P := P) (w := w) (base := base) T
  refine T.F_law_words.ok sc_law_words (fun vs H Q E h => ?_) (fun cdv A outer s H vs Q E hr h => ?_)
  · obtain ⟨s, rfl, _⟩ := h
    rfl
  · obtain ⟨s, rfl, ⟨a, b, c, hs⟩, q⟩ := h
    refine ⟨_, (pss_cons (ps_set (i := 2) sc_law_words.nd rfl (.inr rfl) pe_str)
    (pss_cons (ps_set (i := 3) sc_law_words.nd rfl (.inl rfl) pe_str)
    (pss_cons (ps_for PassesOwn.never rfl (pi_range1 rfl T.m_range (pa_cons (pe_call G_law_pick (hr.mono (by omega)) (by rfl) T.m_law_pick T.F_law_pick.kp T.b_law_pick .nil pass0 (pa_cons (pv 0) (pa_cons pe_int pa_nil))) pa_nil)) (pg_name (i := 4) sc_law_words.nd rfl (.inl rfl))
    (pss_one (ps_set (i := 3) sc_law_words.nd rfl (.inl rfl) (pe_op op_add_str (pv 3) (pe_ix ix_str (pv 2) (pe_call G_law_pick (hr.mono (by omega)) (by rfl) T.m_law_pick T.F_law_pick.kp T.b_law_pick .nil pass0 (pa_cons (pv 0) (pa_cons pe_int pa_nil))) (fun _ _ => rfl))))))
    (pss_cons (ps_set (i := 5) sc_law_words.nd rfl (.inl rfl) (pe_lst pa_nil))
    (Evl.pss_cut (ps_if (PW.pt (pw_and (pt_cmpR op_le (pv 1) pe_int (nomark _)) (pw_and1 (pt_cmpR op_gt (pe_call G_law_pick (hr.mono (by omega)) (by rfl) T.m_law_pick T.F_law_pick.kp T.b_law_pick .nil pass0 (pa_cons (pv 0) (pa_cons pe_int pa_nil))) pe_int (nomark _)))))
    (pss_cons (ps_set (i := 6) sc_law_words.nd rfl (.inl rfl) (pe_call G_law_pick (hr.mono (by omega)) (by rfl) T.m_law_pick T.F_law_pick.kp T.b_law_pick .nil pass0 (pa_cons (pv 0) (pa_cons (pe_op op_add (pe_callB call_len_str (by rfl) T.m_len (by decide +kernel) (pa_cons (pv 3) pa_nil)) pe_int) pa_nil))))
    (pss_one (ps_for PassesOwn.never rfl (pi_list (pe_slice sl_list (pe_call G_law_shuffled (hr.mono (by omega)) (by rfl) T.m_law_shuffled T.F_law_shuffled.kp T.b_law_shuffled .nil pass0 (pa_cons (pv 0) (pa_cons (pe_lc (own := [("k", 7)]) rfl sc_law_words.nd (pi_range1 rfl T.m_range (pa_cons pe_int pa_nil)) (blkOk_by (own := [("k", 7)]) (N := ["source", "many", "letters", "base", "turn", "found", "place", "k", "letter", "start", "taken", "word"]) (sc := defScope s_law_words) (by decide +kernel)) (fun _ _ _ _ _ => (pg_name (i := 7) sc_law_words.nd rfl (.inl rfl))) (fun _ _ _ _ _ => pts_nil) (fun _ _ _ _ _ => (pe_ix ix_str (pv 2) (pv 7) (fun _ _ => rfl)))) pa_nil))) po_none (po_some (pv 1)))) (pg_name (i := 8) sc_law_words.nd rfl (.inl rfl))
    (pss_one (ps_expr (pe_bm PySem.F.plainAttrs_list PySem.F.slot_list_append PySem.F.type_list_append mt_append (pv 5) (pa_cons (pe_op op_add_str (pe_op op_add_str (pe_slice sl_str (pv 3) po_none (po_some (pv 6))) (pv 8)) (pe_slice sl_str (pv 3) (po_some (pv 6)) po_none)) pa_nil)))))))
    (pss_cons (ps_set (i := 9) sc_law_words.nd rfl (.inl rfl) (pe_call G_law_pick (hr.mono (by omega)) (by rfl) T.m_law_pick T.F_law_pick.kp T.b_law_pick .nil pass0 (pa_cons (pv 0) (pa_cons pe_int pa_nil))))
    (pss_one (ps_for PassesOwn.never rfl (pi_range1 rfl T.m_range (pa_cons (pv 1) pa_nil)) (pg_name (i := 7) sc_law_words.nd rfl (.inl rfl))
    (pss_one (ps_expr (pe_bm PySem.F.plainAttrs_list PySem.F.slot_list_append PySem.F.type_list_append mt_append (pv 5) (pa_cons (pe_op op_add_str (pe_op op_add_str (pe_ix ix_str (pv 2) (pe_call G_law_pick (hr.mono (by omega)) (by rfl) T.m_law_pick T.F_law_pick.kp T.b_law_pick .nil pass0 (pa_cons (pv 0) (pa_cons pe_int pa_nil))) (fun _ _ => rfl)) (pv 3)) (pe_callTy call_str_int (by rfl) T.m_str (by decide +kernel) (pa_cons (pe_op op_add (pv 9) (pv 7)) pa_nil))) pa_nil))))))))
    (pss_cons (ps_set (i := 10) sc_law_words.nd rfl (.inr rfl) (pe_call0 G_law_grammar (hr.mono (by omega)) (by rfl) T.m_law_grammar T.F_law_grammar.kp T.b_law_grammar .nil pass0))
    (pss_one (ps_ret (pe_lc (own := [("word", 11)]) rfl sc_law_words.nd (pi_list (pv 5)) (blkOk_by (own := [("word", 11)]) (N := ["source", "many", "letters", "base", "turn", "found", "place", "k", "letter", "start", "taken", "word"]) (sc := defScope s_law_words) (by decide +kernel)) (fun _ _ _ _ _ => (pg_name (i := 11) sc_law_words.nd rfl (.inl rfl))) (fun _ _ _ _ _ => pts_nil) (fun _ _ _ _ _ => (pe_ifExp (pt_cmpR (op_inB (K := K) rfl) (pv 11) (pv 10) (by rfl)) (pe_op op_add_str (pv 11) pe_str) (pv 11)))))))))))), ?_⟩
    walk_at "s"
    rename_i k0 a1 b1 c1 k00 k01
    refine for_rangeQ (lo := 0) (n := (k0).toNat) Q rfl (fun i σ H2 => ∃ (x : Str) (v4 : Option V), σ = [some (.ref s), some (.int 2), some (.str abc), some (.str x), v4, none, none, none, none, none, none, none] ∧ Sm x ∧ x.length = i ∧ But s H H2 ∧ Src H2 s) ?_ ?_ ?_
    · exact ⟨_, _, rfl, sm_empty, by decide +kernel, But.upd, _, _, _, upd_same⟩
    · intro N X i σ H2 hi hP hN
      obtain ⟨x, v4, rfl, hx, hxl, but, a2, b2, c2, hs2⟩ := hP
      walk_at "s"
      rename_i k a3 b3 c3 k10 k11
      refine ⟨abc, k, _, rfl, rfl, sz_small (by decide), at_abc k10 k11, ?_⟩
      have ln : x.length + (sg (97 + k.toNat)).length ≤ sizeLine := sz_small (by rw [sg_len]; omega)
      walk_at "s"
      exact hN _ _ ⟨_, _, rfl, sm_app hx (sm_sg k11), by rw [app_len, sg_len, hxl], but.trans But.upd, _, _, _, upd_same⟩
    · intro σ H2 hP
      obtain ⟨x, v4, rfl, hx, hxl, but, a2, b2, c2, hs2⟩ := hP
      have hxl : x.length ≤ 2 := by omega
      walk_at "s"
      rename_i F hF
      have hF0 : H F = none := but.free (ne_of_none hs2 hF).symm hF
      have nsF : s ≠ F := ne_of_none hs2 hF
      refine go_cutM (fun σ' H' => ∃ (v4 v6 v7 v8 v9 : Option V) (fs : List Str), σ' = [some (.ref s), some (.int 2), some (.str abc), some (.str x), v4, some (.ref F), v6, v7, v8, v9, none, none] ∧ But s H H' ∧ Src H' s ∧ H' F = some (.lst (fs.map V.str)) ∧ fs.length = 2 ∧ ∀ y ∈ fs, Wd y) ?_ ?_
      · walk_at "s"
        · rename_i e0 kk a3 b3 c3 kk0 kk1 e1 p a4 b4 c4 p0 p1 D hD
          have hs3 : upd (upd (upd H2 F (.lst [])) s (.lst [.int a3, .int b3, .int c3])) s (.lst [.int a4, .int b4, .int c4]) s = some (.lst [.int a4, .int b4, .int c4]) := upd_same
          have hF3 : upd (upd (upd H2 F (.lst [])) s (.lst [.int a3, .int b3, .int c3])) s (.lst [.int a4, .int b4, .int c4]) F = some (.lst []) := (upd_ne nsF.symm).trans ((upd_ne nsF.symm).trans upd_same)
          have but3 : But s H (upd (upd (upd H2 F (.lst [])) s (.lst [.int a3, .int b3, .int c3])) s (.lst [.int a4, .int b4, .int c4])) := ((but_mut but hF0).trans But.upd).trans But.upd
          generalize upd (upd (upd H2 F (.lst [])) s (.lst [.int a3, .int b3, .int c3])) s (.lst [.int a4, .int b4, .int c4]) = H3 at hs3 hF3 but3 hD
          have nsD : s ≠ D := ne_of_none hs3 hD
          have nFD : F ≠ D := ne_of_none hF3 hD
          refine lc_range (lo := 0) (n := ((26 : Int)).toNat) (fun i H4 => Same H3 H4 ∧ H4 D = some (.lst ((List.range i).map fun (k : Nat) => V.str (sg (97 + k))))) ?_ ?_ ?_
          · exact ⟨same_new hD, upd_same⟩
          · intro i H4 hi hP
            obtain ⟨sm4, hD4⟩ := hP
            simp only [Int.zero_add]
            walk_at "s"
            refine ⟨abc, (i : Int), _, rfl, rfl, sz_small (by decide), at_abc (k := (i : Int)) (by omega) (by omega), ?_⟩
            refine ⟨_, hD4, sz_less (by rw [List.length_map, List.length_range]; omega), same_mut sm4 hD, ?_⟩
            rw [upd_same, List.range_succ, List.map_append]
            rfl
          · intro H4 hP
            obtain ⟨sm4, hD4⟩ := hP
            walk_at "s"
            refine ⟨s, D, _, rfl, ⟨_, _, _, sm4 _ _ hs3⟩, hD4, by rw [List.length_map, List.length_range]; decide, fun r H5 ys but5 nr src5 hr5 hyl hym => ?_⟩
            obtain ⟨a5, b5, c5, hs5⟩ := src5
            have hF5 := but5 _ _ nsF.symm (sm4 _ _ hF3)
            have but6 : But s H H5 := (but3.trans' sm4).trans but5
            have nF0 : F ≠ s := nsF.symm
            walk_at "s"
            rename_i G hG
            have ec : cutV ys none (some 2) = ys.take 2 := cut_take 2
            rw [ec]
            have hG5 : upd H5 G (.lst (ys.take 2)) G = some (.lst (ys.take 2)) := upd_same
            have hF6 : upd H5 G (.lst (ys.take 2)) F = some (.lst []) := hp_new hF5 hG
            have hs6 := hp_new (x := .lst (ys.take 2)) hs5 hG
            have nGF : G ≠ F := (ne_of_none hF5 hG).symm
            have nG0 : H G = none := but6.free (ne_of_none hs5 hG).symm hG
            have but7 : But s H (upd H5 G (.lst (ys.take 2))) := but_mut but6 nG0
            generalize upd H5 G (.lst (ys.take 2)) = H6 at hG5 hF6 hs6 but7
            have htl : (ys.take 2).length = 2 := by
              rw [List.length_take, hyl, List.length_map, List.length_range]
              rfl
            refine for_listQ (xs := ys.take 2) Q rfl (fun i σ H7 => ∃ (v8 : Option V) (fs : List Str), σ = [some (.ref s), some (.int 2), some (.str abc), some (.str x), v4, some (.ref F), some (.int p), none, v8, none, none, none] ∧ But s H H7 ∧ Src H7 s ∧ H7 G = some (.lst (ys.take 2)) ∧ H7 F = some (.lst (fs.map V.str)) ∧ fs.length = i ∧ ∀ y ∈ fs, Wd y) ?_ ?_ ?_ ?_
            · exact ⟨_, [], rfl, but7, ⟨_, _, _, hs6⟩, hG5, hF6, rfl, by simp⟩
            · intro i σ H7 hi hP
              obtain ⟨v8, fs, rfl, but8, src8, hG7, hF7, hfl, hfs⟩ := hP
              exact SqL.of hG7
            · intro N X i z σ H7 hi hP hN
              obtain ⟨v8, fs, rfl, but8, src8, hG7, hF7, hfl, hfs⟩ := hP
              have hil := (List.getElem?_eq_some_iff.mp hi).1
              obtain ⟨k, hk, rfl⟩ := List.mem_map.mp (hym z (List.mem_of_mem_take (List.mem_of_getElem? hi)))
              have hk26 : (k : Int) < 26 := by
                have := List.mem_range.mp hk
                omega
              have sk : small (97 + k) = true := small_abc (k := (k : Int)) hk26
              have xz : x.length ≤ sizeLine := sz_small (by omega)
              have l1 : (cutS x none (some p)).length ≤ 2 := Nat.le_trans cut_len hxl
              have l2 : (cutS x (some p) none).length ≤ 2 := Nat.le_trans cut_len hxl
              have wd := wd_sm (sm_cut (lo := none) (hi := some p) hx) (sm_cut (lo := some p) (hi := none) hx) sk l1 l2
              have ln : (cutS x none (some p)).length + (sg (97 + k)).length ≤ sizeLine := sz_small (by rw [sg_len]; omega)
              have ln2 : (cutS x none (some p) ++ sg (97 + k)).length + (cutS x (some p) none).length ≤ sizeLine := sz_small (by rw [app_len, sg_len]; omega)
              have hfz : (fs.map V.str).length < sizeLine := sz_less (by rw [List.length_map]; omega)
              walk_at "s"
              refine hN _ _ ⟨_, fs ++ [cutS x none (some p) ++ sg (97 + k) ++ cutS x (some p) none], rfl, but_mut but8 hF0, ?_, (upd_ne nGF).trans hG7, ?_, by rw [List.length_append, hfl]; rfl, fun y hy => ?_⟩
              · obtain ⟨a8, b8, c8, h8⟩ := src8
                exact ⟨a8, b8, c8, (upd_ne nsF).trans h8⟩
              · rw [upd_same, List.map_append]
                rfl
              · rcases List.mem_append.mp hy with hy | hy
                · exact hfs y hy
                · rw [List.mem_singleton] at hy
                  rw [hy]
                  exact wd
            · intro σ H7 hP
              obtain ⟨v8, fs, rfl, but8, src8, hG7, hF7, hfl, hfs⟩ := hP
              exact ⟨_, _, _, _, _, fs, rfl, but8, src8, hF7, by rw [hfl, htl], hfs⟩
        · rename_i e0 kk a3 b3 c3 kk0 kk1 e1 p a4 b4 c4 p0 p1
          have hs3 : upd (upd (upd H2 F (.lst [])) s (.lst [.int a3, .int b3, .int c3])) s (.lst [.int a4, .int b4, .int c4]) s = some (.lst [.int a4, .int b4, .int c4]) := upd_same
          have hF3 : upd (upd (upd H2 F (.lst [])) s (.lst [.int a3, .int b3, .int c3])) s (.lst [.int a4, .int b4, .int c4]) F = some (.lst []) := (upd_ne nsF.symm).trans ((upd_ne nsF.symm).trans upd_same)
          have but3 : But s H (upd (upd (upd H2 F (.lst [])) s (.lst [.int a3, .int b3, .int c3])) s (.lst [.int a4, .int b4, .int c4])) := ((but_mut but hF0).trans But.upd).trans But.upd
          generalize upd (upd (upd H2 F (.lst [])) s (.lst [.int a3, .int b3, .int c3])) s (.lst [.int a4, .int b4, .int c4]) = H3 at hs3 hF3 but3
          refine for_rangeQ (lo := 0) (n := ((2 : Int)).toNat) Q rfl (fun i σ H4 => ∃ (v7 : Option V) (fs : List Str), σ = [some (.ref s), some (.int 2), some (.str abc), some (.str x), v4, some (.ref F), none, v7, none, some (.int p), none, none] ∧ But s H H4 ∧ Src H4 s ∧ H4 F = some (.lst (fs.map V.str)) ∧ fs.length = i ∧ ∀ y ∈ fs, Wd y) ?_ ?_ ?_
          · exact ⟨_, [], rfl, but3, ⟨_, _, _, hs3⟩, hF3, rfl, by simp⟩
          · intro N X i σ H4 hi hP hN
            obtain ⟨v7, fs, rfl, but4, ⟨a5, b5, c5, hs5⟩, hF4, hfl, hfs⟩ := hP
            simp only [Int.zero_add]
            walk_at "s"
            rename_i k a6 b6 c6 k10 k11
            refine ⟨abc, k, _, rfl, rfl, sz_small (by decide), at_abc k10 k11, ?_⟩
            have hi2 : i < 2 := hi
            have hn2 : (p + (i : Int)) < 100 := by omega
            have wd := wd_num (k := k) hx k11 hxl (n := p + (i : Int)) (by omega) hn2
            obtain ⟨m, hm⟩ : ∃ m : Nat, p + (i : Int) = (m : Int) := ⟨(p + (i : Int)).toNat, by omega⟩
            have nl : (Str.ofString (toString (p + (i : Int)))).length ≤ 2 := by
              rw [hm]
              exact num_len (by omega)
            have ln : (sg (97 + k.toNat)).length + x.length ≤ sizeLine := sz_small (by rw [sg_len]; omega)
            have ln2 : (sg (97 + k.toNat) ++ x).length + (Str.ofString (toString (p + (i : Int)))).length ≤ sizeLine := sz_small (by rw [app_len, sg_len]; omega)
            have lg : (p + (i : Int)).natAbs.log2 < 1920 := Nat.lt_of_le_of_lt (Nat.log2_le_self _) (by omega)
            have hF5 : upd H4 s (.lst [.int a6, .int b6, .int c6]) F = some (.lst (fs.map V.str)) := (upd_ne nsF.symm).trans hF4
            walk_at "s"
            refine hN _ _ ⟨_, fs ++ [sg (97 + k.toNat) ++ x ++ Str.ofString (toString (p + (i : Int)))], rfl, but_mut (but4.trans But.upd) hF0, ⟨_, _, _, (upd_ne nsF).trans upd_same⟩, ?_, by rw [List.length_append, hfl]; rfl, fun y hy => ?_⟩
            · rw [upd_same, List.map_append]
              rfl
            · rcases List.mem_append.mp hy with hy | hy
              · exact hfs y hy
              · rw [List.mem_singleton] at hy
                rw [hy]
                exact wd
          · intro σ H4 hP
            obtain ⟨v7, fs, rfl, but4, src, hF4, hfl, hfs⟩ := hP
            exact ⟨_, _, _, _, _, fs, rfl, but4, src, hF4, hfl, hfs⟩
        · exact absurd (by decide) ‹¬ (2 : Int) ≤ 26›
      · intro σ' H' hM
        obtain ⟨v4, v6, v7, v8, v9, fs, rfl, but', ⟨a3, b3, c3, hs3⟩, hF3, hfl, hfs⟩ := hM
        walk_at "s"
        intro g H4 gs sm4 ng hg
        have hF4 := sm4 _ _ hF3
        have hs4 := sm4 _ _ hs3
        walk_at "s"
        rename_i D hD
        have nD : H D = none := but'.free (ne_of_none hs3 (sm4.free hD)).symm (sm4.free hD)
        have nsD : s ≠ D := ne_of_none hs4 hD
        refine lc_list (xs := fs.map V.str) (fun i H5 => Same H4 H5 ∧ ∃ ys : List Str, H5 D = some (.lst (ys.map V.str)) ∧ ys.length = i ∧ ∀ y ∈ ys, isWord (tl y) = true ∧ y.length ≤ 33) ?_ ?_ ?_ ?_
        · exact ⟨same_new hD, [], upd_same, rfl, by simp⟩
        · intro i H5 hi hP
          exact SqL.of (hP.1 _ _ hF4)
        · intro i z H5 hi hP
          obtain ⟨sm5, ys, hD5, hyl, hys⟩ := hP
          obtain ⟨v, rfl, hv⟩ := map_get hi
          obtain ⟨w1, w2⟩ := hfs v (List.mem_of_getElem? hv)
          have hiv : i < 2 := by
            have := (List.getElem?_eq_some_iff.mp hv).1
            omega
          have hg5 := sm5 _ _ hg
          have lx : v.length + (Str.ofString "x").length ≤ sizeLine := sz_small (by rw [show (Str.ofString "x").length = 1 by decide +kernel]; omega)
          have put : ∀ u : Str, isWord (tl u) = true → u.length ≤ 33 → ∃ acc, H5 D = some (.lst acc) ∧ acc.length < sizeLine ∧ Same H4 (upd H5 D (.lst (acc ++ [V.str u]))) ∧ ∃ ys : List Str, (upd H5 D (.lst (acc ++ [V.str u]))) D = some (.lst (ys.map V.str)) ∧ ys.length = i + 1 ∧ ∀ y ∈ ys, isWord (tl y) = true ∧ y.length ≤ 33 := fun u u1 u2 => by
            refine ⟨_, hD5, sz_less (by rw [List.length_map]; omega), same_mut sm5 hD, ys ++ [u], ?_, by rw [List.length_append, hyl]; rfl, fun y hy => ?_⟩
            · rw [upd_same, List.map_append]
              rfl
            · rcases List.mem_append.mp hy with hy | hy
              · exact hys y hy
              · rw [List.mem_singleton] at hy
                rw [hy]
                exact ⟨u1, u2⟩
          walk_at "s"
          refine ⟨by simp [flatV], ?_⟩
          walk_at "s"
          · exact put _ (wd_x w1 w2).1 (wd_x w1 w2).2
          · exact put _ w1 (by omega)
        · intro H5 hP
          obtain ⟨sm5, ys, hD5, hyl, hys⟩ := hP
          rw [List.length_map, hfl] at hyl
          exact q D H5 ys ((but'.trans' sm4).trans' sm5) nD ⟨_, _, _, sm5 _ _ hs4⟩ hD5 hyl hys
end
end K66W
set_option Elab.async false
set_option linter.all false
set_option maxRecDepth 100000
set_option maxHeartbeats 4000000
namespace K66W
open PySem PySem.Spec PyProof.Rows L2 TL LW PT
local macro_rules | `(tactic| walk_at "ne") => `(tactic| first
  | (with_reducible assumption)
  | exact Ne.symm (by assumption)
  | (with_reducible exact ne_of_none (by assumption) (by assumption))
  | (with_reducible exact (ne_of_none (by assumption) (by assumption)).symm)
  | (apply ne_of_none; (case h' => assumption); (case h => walk_at "hp"))
  | (apply Ne.symm; apply ne_of_none; (case h' => assumption); (case h => walk_at "hp")))
local macro_rules | `(tactic| walk_at "hp") => `(tactic| first
  | (with_reducible assumption)
  | exact upd_same
  | (with_reducible exact hp_new (by assumption) (by assumption))
  | (apply hp_new; (case n => assumption); (case h => walk_at "hp"))
  | (refine (upd_ne ?ne).trans ?hp; (case ne => walk_at "ne"); (case hp => walk_at "hp")))
local macro_rules | `(tactic| walk_at "sq") => `(tactic| first
  | ((with_reducible show SqL _ _ _ _); assumption)
  | ((with_reducible show SqT _ _ _ _); assumption)
  | exact SqL.of (by assumption)
  | exact SqL.of upd_same
  | exact SqT.of (by assumption)
  | exact SqT.of upd_same
  | (apply SqL.of; walk_at "hp")
  | (apply SqT.of; walk_at "hp"))
local macro_rules | `(tactic| walk_at "len") => `(tactic| first
  | (with_reducible assumption)
  | exact sz_small (by omega)
  | exact sz_less (by omega)
  | decide
  | (refine sz_small ?_; simp only [List.length_append, List.length_cons, List.length_nil, List.length_map, str_len]; omega)
  | (refine sz_less ?_; simp only [List.length_append, List.length_cons, List.length_nil, List.length_map, str_len]; omega))
local macro_rules | `(tactic| walk_at "cond") => `(tactic| first
  | omega
  | (split <;> omega)
  | (with_reducible assumption)
  | exact .inl ⟨by omega, by omega⟩
  | exact .inr ⟨by omega, by omega⟩
  | exact ⟨by omega, by omega⟩
  | (show (0 : Int) < _; omega)
  | (show (0 : Int) < _; decide +kernel)
  | exact ⟨by omega, by omega, by decide⟩
  | walk_at "len"
  | rfl
  | (show CMulW _ _; unfold CMulW; decide +kernel)
  | exact ⟨_, rfl⟩
  | decide +kernel
  | exact ⟨_, by walk_at "sq"⟩
  | exact .inl ⟨rfl, _, by walk_at "sq"⟩)
local macro_rules | `(tactic| walk_at "at") => `(tactic| first
  | (with_reducible assumption)
  | exact atI_nat (by assumption)
  | exact atI_last _ _
  | exact atI_nat (j := 0) rfl
  | exact atI_nat (j := 1) rfl
  | exact atI_nat (j := 2) rfl
  | exact atI_nat (j := 3) rfl
  | exact atI_nat (j := 4) rfl)
local macro_rules | `(tactic| walk_at "ix") => `(tactic| first
  | (with_reducible assumption)
  | (with_reducible exact ixN_0 (by simp; done))
  | (with_reducible exact ixN_1 (by simp; done))
  | (with_reducible exact ixN_2 (by simp; done))
  | (with_reducible exact Evl.ixN_nat (by assumption))
  | (with_reducible exact Evl.ixN_nat (by omega)))
local macro_rules | `(tactic| walk_at "v") => `(tactic| first
  | exact val_var rfl
  | (with_reducible exact val_c)
  | (with_reducible apply val_orV; (case ha => walk_at "v"); (case hb => walk_at "v"))
  | (with_reducible apply val_andV; (case ha => walk_at "v"); (case hb => walk_at "v"))
  | (with_reducible apply val_notV; walk_at "v")
  | (with_reducible apply val_ifS; (case h => walk_at "w"); (case ha => walk_at "v"); (case hb => walk_at "v"))
  | (with_reducible apply val_ifI; (case h => walk_at "w"); (case ha => walk_at "v"); (case hb => walk_at "v"))
  | (with_reducible apply val_ifB; (case h => walk_at "w"); (case ha => walk_at "v"); (case hb => walk_at "v"))
  | (with_reducible apply val_eqS; (case ha => walk_at "v"); (case hb => walk_at "v"))
  | (with_reducible apply val_eqI; (case ha => walk_at "v"); (case hb => walk_at "v"))
  | (with_reducible apply val_neS; (case ha => walk_at "v"); (case hb => walk_at "v"))
  | (with_reducible apply val_neI; (case ha => walk_at "v"); (case hb => walk_at "v"))
  | (with_reducible apply val_op; (case ha => walk_at "v"); (case hb => walk_at "v"); (case hr => exact fun Q q => ⟨_, _, rfl, rfl, q⟩)))
local macro_rules | `(tactic| walk_at "w") => `(tactic| first
  | (with_reducible apply ans_or2; (case h1 => walk_at "w"); (case h2 => walk_at "w"))
  | (with_reducible apply ans_and2; (case h1 => walk_at "w"); (case h2 => walk_at "w"))
  | (with_reducible apply ans_not; walk_at "w")
  | (with_reducible apply ans_test; walk_at "v")
  | (with_reducible apply ans_val; walk_at "v"))
local macro_rules | `(tactic| walk_at "s2") => `(tactic| first
  | refine ⟨_, rfl, ?_⟩
  | refine ⟨_, _, rfl, rfl, ?_⟩
  | (refine And.intro ?cc ?_; (case cc => walk_at "cond"))
  | refine ⟨_, _, _, _, rfl, rfl, by walk_at "sq", by walk_at "at", ?_⟩
  | refine ⟨_, _, _, _, rfl, rfl, by walk_at "hp", by walk_at "ix", ?_⟩
  | refine ⟨_, _, _, _, rfl, rfl, by walk_at "hp", by walk_at "hp", by walk_at "len", ?_⟩
  | refine ⟨_, _, _, rfl, rfl, by walk_at "len", by walk_at "at", ?_⟩
  | refine ⟨_, _, _, rfl, rfl, by walk_at "hp", by walk_at "len", ?_⟩
  | refine ⟨_, _, _, rfl, rfl, by walk_at "hp", by walk_at "at", ?_⟩
  | refine ⟨_, _, rfl, rfl, by walk_at "sq", ?_⟩
  | refine ⟨_, _, rfl, rfl, by walk_at "len", ?_⟩
  | refine ⟨_, _, rfl, by walk_at "sq", ?_⟩
  | refine ⟨_, _, rfl, .inl (by walk_at "sq"), ?_⟩
  | refine ⟨_, _, rfl, .inr (by walk_at "sq"), ?_⟩
  | refine ⟨_, _, rfl, by walk_at "sq", rfl, ?_⟩
  | refine ⟨_, fun _ _ h => h, ?_⟩
  | refine .inl ⟨_, rfl, ?_⟩
  | refine ⟨_, _, .type "int", .type _, true, rfl, ClsV.ty _, .base (.int _), kit_ty (by decide +kernel), ?_⟩
  | refine ⟨_, _, .type "int", .type _, false, rfl, ClsV.ty _, .base (.int _), kit_ty (by decide +kernel), ?_⟩
  | refine ⟨_, _, .type "bool", .type _, true, rfl, ClsV.ty _, .base (.bl _), kit_ty (by decide +kernel), ?_⟩
  | refine ⟨_, _, .type "bool", .type _, false, rfl, ClsV.ty _, .base (.bl _), kit_ty (by decide +kernel), ?_⟩
  | refine ⟨_, _, .type "str", .type _, true, rfl, ClsV.ty _, .base (.str _), kit_ty (by decide +kernel), ?_⟩
  | refine ⟨_, _, .type "str", .type _, false, rfl, ClsV.ty _, .base (.str _), kit_ty (by decide +kernel), ?_⟩
  | refine ⟨_, _, .type "NoneType", .type _, true, rfl, ClsV.ty _, .base (.non), kit_ty (by decide +kernel), ?_⟩
  | refine ⟨_, _, .type "NoneType", .type _, false, rfl, ClsV.ty _, .base (.non), kit_ty (by decide +kernel), ?_⟩
  | refine ⟨_, _, .type "list", .type _, true, rfl, ClsV.ty _, .base (.lst (by walk_at "hp")), kit_ty (by decide +kernel), ?_⟩
  | refine ⟨_, _, .type "list", .type _, false, rfl, ClsV.ty _, .base (.lst (by walk_at "hp")), kit_ty (by decide +kernel), ?_⟩
  | refine ⟨_, _, .type "tuple", .type _, true, rfl, ClsV.ty _, .base (.tup (by walk_at "hp")), kit_ty (by decide +kernel), ?_⟩
  | refine ⟨_, _, .type "tuple", .type _, false, rfl, ClsV.ty _, .base (.tup (by walk_at "hp")), kit_ty (by decide +kernel), ?_⟩
  | fail)
local macro_rules | `(tactic| walk_at "s1") => `(tactic| first
  | (with_reducible refine go_gcons ?_)
  | (with_reducible refine go_gnil ?_)
  | (with_reducible refine go_seqM ?_)
  | (with_reducible refine go_nextM ?_)
  | (with_reducible refine go_contM ?_)
  | (with_reducible refine go_brkM ?_)
  | (with_reducible refine go_retM ?_)
  | (with_reducible refine go_asgM ?_)
  | (with_reducible refine go_test ?_)
  | (with_reducible refine go_rI0 ?_)
  | (with_reducible refine go_op ?_)
  | (with_reducible refine go_var rfl ?_)
  | ((with_reducible show tFor (iRng1 _) _ _ _ _ _); refine (show iRng1 _ _ _ _ from ?_))
  | (with_reducible refine go_rng1 ?_)
  | (with_reducible refine go_c ?_)
  | (with_reducible apply go_pick; (case hs => walk_at "hp"); (case h0 => walk_at "cond"); (case h1 => walk_at "cond"); (case' q => intro k a b c h0 h1))
  | (with_reducible refine go_nil ?_)
  | (with_reducible refine go_cons ?_)
  | (with_reducible refine go_call ?_)
  | (with_reducible refine go_cb ?_)
  | (with_reducible refine go_next ?_)
  | (with_reducible refine go_cont ?_)
  | (with_reducible refine go_ret ?_)
  | (with_reducible refine go_name ?_)
  | (with_reducible refine go_seq ?_)
  | (with_reducible refine go_asg ?_)
  | (with_reducible apply go_or; (case h => walk_at "v"))
  | (with_reducible apply go_and; (case h => walk_at "v"))
  | (with_reducible apply go_andL; (case h => walk_at "v"); (case' h1 => intro e); (case' h2 => intro e))
  | (with_reducible apply go_orL; (case h => walk_at "v"); (case' h1 => intro e); (case' h2 => intro e))
  | (with_reducible apply go_ifE; (case h => walk_at "v"))
  | (with_reducible apply go_ifOr; (case h => walk_at "w"); (case' h1 => intro e); (case' h2 => intro e))
  | (with_reducible apply go_ifAnd; (case h => walk_at "w"); (case' h1 => intro e); (case' h2 => intro e))
  | (with_reducible refine go_min ?_)
  | (with_reducible refine iteT ?_)
  | (with_reducible refine iteF ?_)
  | (with_reducible refine iteD (fun _ => ?_) (fun e => absurd rfl e))
  | (with_reducible refine iteS (fun e => ?_) (fun e => ?_))
  | (with_reducible refine iteI (fun e => ?_) (fun e => ?_))
  | (with_reducible refine iteSn (fun e => ?_) (fun e => ?_))
  | (with_reducible refine iteIn (fun e => ?_) (fun e => ?_))
  | (with_reducible refine iteD (fun e => ?_) (fun e => ?_))
  | (with_reducible refine iteDn (fun e => ?_) (fun e => ?_))
  | (with_reducible refine ite2 (fun e => ?_) (fun e => ?_))
  | (refine fun (p : Addr) (hp : _ = none) => ?_)
  | ((conv => whnf); walk_at "s2")
  | fail)
local macro_rules | `(tactic| walk_at "s") => `(tactic| repeat' (first
  | (with_reducible refine go_gcons ?_)
  | (with_reducible refine go_gnil ?_)
  | (with_reducible refine go_seqM ?_)
  | (with_reducible refine go_nextM ?_)
  | (with_reducible refine go_contM ?_)
  | (with_reducible refine go_brkM ?_)
  | (with_reducible refine go_retM ?_)
  | (with_reducible refine go_asgM ?_)
  | (with_reducible refine go_test ?_)
  | (with_reducible refine go_rI0 ?_)
  | (with_reducible refine go_op ?_)
  | (with_reducible refine go_var rfl ?_)
  | ((with_reducible show tFor (iRng1 _) _ _ _ _ _); refine (show iRng1 _ _ _ _ from ?_))
  | (with_reducible refine go_rng1 ?_)
  | (with_reducible refine go_c ?_)
  | (with_reducible apply go_pick; (case hs => walk_at "hp"); (case h0 => walk_at "cond"); (case h1 => walk_at "cond"); (case' q => intro k a b c h0 h1))
  | (with_reducible refine go_nil ?_)
  | (with_reducible refine go_cons ?_)
  | (with_reducible refine go_call ?_)
  | (with_reducible refine go_cb ?_)
  | (with_reducible refine go_next ?_)
  | (with_reducible refine go_cont ?_)
  | (with_reducible refine go_ret ?_)
  | (with_reducible refine go_name ?_)
  | (with_reducible refine go_seq ?_)
  | (with_reducible refine go_asg ?_)
  | (with_reducible apply go_or; (case h => walk_at "v"))
  | (with_reducible apply go_and; (case h => walk_at "v"))
  | (with_reducible apply go_andL; (case h => walk_at "v"); (case' h1 => intro e); (case' h2 => intro e))
  | (with_reducible apply go_orL; (case h => walk_at "v"); (case' h1 => intro e); (case' h2 => intro e))
  | (with_reducible apply go_ifE; (case h => walk_at "v"))
  | (with_reducible apply go_ifOr; (case h => walk_at "w"); (case' h1 => intro e); (case' h2 => intro e))
  | (with_reducible apply go_ifAnd; (case h => walk_at "w"); (case' h1 => intro e); (case' h2 => intro e))
  | (with_reducible refine go_min ?_)
  | (with_reducible refine iteT ?_)
  | (with_reducible refine iteF ?_)
  | (with_reducible refine iteD (fun _ => ?_) (fun e => absurd rfl e))
  | (with_reducible refine iteS (fun e => ?_) (fun e => ?_))
  | (with_reducible refine iteI (fun e => ?_) (fun e => ?_))
  | (with_reducible refine iteSn (fun e => ?_) (fun e => ?_))
  | (with_reducible refine iteIn (fun e => ?_) (fun e => ?_))
  | (with_reducible refine iteD (fun e => ?_) (fun e => ?_))
  | (with_reducible refine iteDn (fun e => ?_) (fun e => ?_))
  | (with_reducible refine ite2 (fun e => ?_) (fun e => ?_))
  | (refine fun (p : Addr) (hp : _ = none) => ?_)
  | ((conv => whnf); walk_at "s2")
  | fail))

section
variable {P : Program} {w : World} {K : PySem.W.Frag} {mg : Str → Option Value} {base : Heap}
/-! ### drawn members -/
theorem ten30 : (10 : Int) ^ (30 : Int).toNat = 1000000000000000000000000000000 := by decide +kernel
theorem ten31 : (10 : Nat) ^ 31 = 10000000000000000000000000000000 := by decide +kernel
def spMember (n : Nat) : Sp := fun vs H Q _ => ∃ (s : Addr) (r : Nat), vs = [.ref s, .int r] ∧ r < n ∧ r ≤ 4 ∧ Src H s ∧ ∀ y d H', But s H H' → Src H' s → Mem d r → Dt H' y d → Q y H'
theorem ok_member (T : Top K mg) : ∀ n, FnOk P w K mg base CX0 (n + 4) T.a_law_member T.d_law_member ["source", "room"] (spMember n) := by
  intro n
  induction n with
  | zero =>
    refine (T.F_law_member.ok sc_law_member (k := 3) (fun vs H Q E h => ?_) (fun cdv A outer s H vs Q E hr h => ?_))
    · obtain ⟨s, r, rfl, _⟩ := h
      rfl
    · obtain ⟨s, r, rfl, hn, _⟩ := h
      omega
  | succ n ih =>
    have G_law_pick := ok_pick (P := P) (w := w) (base := base) T
    have G_law_words := ok_words (P := P) (w := w) (base := base) T
    have G_law_number := ok_number (P := P) (w := w) (base := base) T
    have G_law_member := ih
    refine T.F_law_member.ok sc_law_member (fun vs H Q E h => ?_) (fun cdv A outer s H vs Q E hr h => ?_)
    · obtain ⟨s, r, rfl, _⟩ := h
      rfl
    · obtain ⟨s, r, rfl, hn, h4, ⟨a, b, c, hs⟩, q⟩ := h
      refine ⟨_, (pss_cons (ps_set (i := 2) sc_law_member.nd rfl (.inl rfl) (pe_call G_law_pick (hr.mono (by omega)) (by rfl) T.m_law_pick T.F_law_pick.kp T.b_law_pick .nil pass0 (pa_cons (pv 0) (pa_cons pe_int pa_nil))))
    (pss_cons (ps_if (pt_cmpR op_eq (pv 2) pe_int (nomark _))
    (pss_one (ps_ret pe_non))
    pss_nil)
    (pss_cons (ps_if (pt_cmpR op_eq (pv 2) pe_int (nomark _))
    (pss_one (ps_ret (pe_ix ix_list (pe_call G_law_words (hr.mono (by omega)) (by rfl) T.m_law_words T.F_law_words.kp T.b_law_words .nil pass0 (pa_cons (pv 0) (pa_cons pe_int pa_nil))) pe_int (fun _ _ => rfl))))
    pss_nil)
    (pss_cons (ps_if (PW.pt (pw_and (pt_cmpR op_gt (pv 2) pe_int (nomark _)) (pw_and1 (pt_cmpR op_gt (pv 1) pe_int (nomark _)))))
    (pss_one (ps_ret (pe_callTy call_tuple_of (by rfl) T.m_tuple (by decide +kernel) (pa_cons (pe_lc (own := [("turn", 4)]) rfl sc_law_member.nd (pi_range1 rfl T.m_range (pa_cons (pe_call G_law_pick (hr.mono (by omega)) (by rfl) T.m_law_pick T.F_law_pick.kp T.b_law_pick .nil pass0 (pa_cons (pv 0) (pa_cons (pe_ifExp (pt_cmpR op_gt (pv 1) pe_int (nomark _)) pe_int pe_int) pa_nil))) pa_nil)) (blkOk_by (own := [("turn", 4)]) (N := ["source", "room", "sort", "number", "turn"]) (sc := defScope s_law_member) (by decide +kernel)) (fun _ _ _ _ _ => (pg_name (i := 4) sc_law_member.nd rfl (.inl rfl))) (fun _ _ _ _ _ => pts_nil) (fun _ _ _ _ _ => (pe_call G_law_member (hr.mono (by omega)) (by rfl) T.m_law_member T.F_law_member.kp T.b_law_member .nil pass0 (pa_cons (pv 0) (pa_cons (pe_op op_sub (pv 1) pe_int) pa_nil))))) pa_nil))))
    pss_nil)
    (pss_cons (ps_set (i := 3) sc_law_member.nd rfl (.inl rfl) (pe_call G_law_number (hr.mono (by omega)) (by rfl) T.m_law_number T.F_law_number.kp T.b_law_number .nil pass0 (pa_cons (pv 0) (pa_cons (pe_op op_pow pe_int pe_int) pa_nil))))
    (pss_one (ps_ret (pe_ifExp (pt_cmpR op_gt (pe_call G_law_pick (hr.mono (by omega)) (by rfl) T.m_law_pick T.F_law_pick.kp T.b_law_pick .nil pass0 (pa_cons (pv 0) (pa_cons pe_int pa_nil))) pe_int (nomark _)) (pv 3) (pe_op op_sub (pe_un un_neg pe_int) (pv 3)))))))))), ?_⟩
      walk_at "s"
      · rename_i k0 a0 b0 c0 k00 k01 e0
        exact q _ _ _ But.upd ⟨_, _, _, upd_same⟩ (mem_none r) dt_none
      · rename_i k0 a0 b0 c0 k00 k01 e0 e1
        refine ⟨⟨_, _, _, upd_same⟩, fun g H4 ys but4 ng src4 hg hyl hys => ?_⟩
        have hy1 : ys[1]? = some ys[1] := List.getElem?_eq_getElem (by omega)
        obtain ⟨w1, w2⟩ := hys _ (List.mem_of_getElem? hy1)
        have hat : atI (ys.map V.str) (1 : Int) = some (.str ys[1]) := atI_nat (j := 1) (by rw [List.getElem?_map, hy1]; rfl)
        generalize ys[1] = y at w1 w2 hat
        walk_at "s"
        exact q _ _ _ (But.upd.trans but4) src4 (mem_str w1 w2) (dt_str y)
      · rename_i k0 a0 b0 c0 k00 k01 e0 e1 e2 e3 e4 k a1 b1 c1 k10 k11 D hD
        have hs1 : upd (upd H s (.lst [.int a0, .int b0, .int c0])) s (.lst [.int a1, .int b1, .int c1]) s = some (.lst [.int a1, .int b1, .int c1]) := upd_same
        have but1 : But s H (upd (upd H s (.lst [.int a0, .int b0, .int c0])) s (.lst [.int a1, .int b1, .int c1])) := But.upd.trans But.upd
        generalize upd (upd H s (.lst [.int a0, .int b0, .int c0])) s (.lst [.int a1, .int b1, .int c1]) = H1 at hs1 but1 hD
        have nsD : s ≠ D := ne_of_none hs1 hD
        have nD : H D = none := but1.free nsD.symm hD
        refine lc_range (lo := 0) (n := k.toNat) (fun i H2 => But s H1 H2 ∧ Src H2 s ∧ ∃ (ys : List V) (ds : List PyData), H2 D = some (.lst ys) ∧ DtAll H2 ys ds ∧ ds.length = i ∧ ∀ d ∈ ds, Mem d (r - 1)) ?_ ?_ ?_
        · exact ⟨But.of (same_new hD), ⟨_, _, _, hp_new hs1 hD⟩, [], [], upd_same, da_nil, rfl, by simp⟩
        · intro i H2 hi hP
          obtain ⟨but2, src2, ys, ds, hD2, hys, hdl, hds⟩ := hP
          have er : V.int ((r : Int) - 1) = V.int ((r - 1 : Nat) : Int) := by
            congr 1
            omega
          have hik : i < 4 := by omega
          walk_at "s"
          rw [er]
          refine ⟨s, r - 1, rfl, by omega, by omega, src2, fun y d H3 but3 src3 hm hy => ?_⟩
          obtain ⟨a5, b5, c5, hs5⟩ := src2
          have hD3 := but3 _ _ nsD.symm hD2
          have t3 : Ts H2 H3 := Ts.but but3 hs5
          have hfz : fzAll ds = true := fzAll_iff.mpr fun d hd => rm_fz d (hds d hd).1
          have hyl := da_len hys
          refine ⟨ys, hD3, sz_less (by omega), but_mut (but2.trans but3) hD, ?_, ys ++ [y], ds ++ [d], upd_same, ?_, by rw [List.length_append, hdl]; rfl, fun x hx => ?_⟩
          · obtain ⟨a6, b6, c6, h6⟩ := src3
            exact ⟨a6, b6, c6, (upd_ne nsD).trans h6⟩
          · have t4 : Ts H3 (upd H3 D (.lst (ys ++ [y]))) := Ts.upd hD3
            exact da_app (hys.ts (t3.trans t4) _ _ hfz) (da_cons (hy.ts t4 _ _ (rm_fz d hm.1)) da_nil)
          · rcases List.mem_append.mp hx with hx | hx
            · exact hds x hx
            · rw [List.mem_singleton] at hx
              rw [hx]
              exact hm
        · intro H2 hP
          obtain ⟨but2, ⟨a5, b5, c5, hs5⟩, ys, ds, hD2, hys, hdl, hds⟩ := hP
          walk_at "s"
          refine ⟨D, ys, rfl, .inl ⟨SqL.of hD2, fun p hp => ?_⟩⟩
          have hm := mem_tuple (m := ds.length) hds (Nat.le_refl _) (by omega) (by omega)
          rw [show r - 1 + 1 = r from by omega] at hm
          exact q _ _ _ ((but1.trans but2).trans' (same_new hp)) ⟨a5, b5, c5, hp_new hs5 hp⟩ hm (dt_tup upd_same (hys.same (same_new hp)))
      · rename_i k0 a0 b0 c0 k00 k01 e0 e1 e2 e3 e4 k a1 b1 c1 k10 k11 D hD
        have hs1 : upd (upd H s (.lst [.int a0, .int b0, .int c0])) s (.lst [.int a1, .int b1, .int c1]) s = some (.lst [.int a1, .int b1, .int c1]) := upd_same
        have but1 : But s H (upd (upd H s (.lst [.int a0, .int b0, .int c0])) s (.lst [.int a1, .int b1, .int c1])) := But.upd.trans But.upd
        generalize upd (upd H s (.lst [.int a0, .int b0, .int c0])) s (.lst [.int a1, .int b1, .int c1]) = H1 at hs1 but1 hD
        have nsD : s ≠ D := ne_of_none hs1 hD
        have nD : H D = none := but1.free nsD.symm hD
        refine lc_range (lo := 0) (n := k.toNat) (fun i H2 => But s H1 H2 ∧ Src H2 s ∧ ∃ (ys : List V) (ds : List PyData), H2 D = some (.lst ys) ∧ DtAll H2 ys ds ∧ ds.length = i ∧ ∀ d ∈ ds, Mem d (r - 1)) ?_ ?_ ?_
        · exact ⟨But.of (same_new hD), ⟨_, _, _, hp_new hs1 hD⟩, [], [], upd_same, da_nil, rfl, by simp⟩
        · intro i H2 hi hP
          obtain ⟨but2, src2, ys, ds, hD2, hys, hdl, hds⟩ := hP
          have er : V.int ((r : Int) - 1) = V.int ((r - 1 : Nat) : Int) := by
            congr 1
            omega
          have hik : i < 4 := by omega
          walk_at "s"
          rw [er]
          refine ⟨s, r - 1, rfl, by omega, by omega, src2, fun y d H3 but3 src3 hm hy => ?_⟩
          obtain ⟨a5, b5, c5, hs5⟩ := src2
          have hD3 := but3 _ _ nsD.symm hD2
          have t3 : Ts H2 H3 := Ts.but but3 hs5
          have hfz : fzAll ds = true := fzAll_iff.mpr fun d hd => rm_fz d (hds d hd).1
          have hyl := da_len hys
          refine ⟨ys, hD3, sz_less (by omega), but_mut (but2.trans but3) hD, ?_, ys ++ [y], ds ++ [d], upd_same, ?_, by rw [List.length_append, hdl]; rfl, fun x hx => ?_⟩
          · obtain ⟨a6, b6, c6, h6⟩ := src3
            exact ⟨a6, b6, c6, (upd_ne nsD).trans h6⟩
          · have t4 : Ts H3 (upd H3 D (.lst (ys ++ [y]))) := Ts.upd hD3
            exact da_app (hys.ts (t3.trans t4) _ _ hfz) (da_cons (hy.ts t4 _ _ (rm_fz d hm.1)) da_nil)
          · rcases List.mem_append.mp hx with hx | hx
            · exact hds x hx
            · rw [List.mem_singleton] at hx
              rw [hx]
              exact hm
        · intro H2 hP
          obtain ⟨but2, ⟨a5, b5, c5, hs5⟩, ys, ds, hD2, hys, hdl, hds⟩ := hP
          walk_at "s"
          refine ⟨D, ys, rfl, .inl ⟨SqL.of hD2, fun p hp => ?_⟩⟩
          have hm := mem_tuple (m := ds.length) hds (Nat.le_refl _) (by omega) (by omega)
          rw [show r - 1 + 1 = r from by omega] at hm
          exact q _ _ _ ((but1.trans but2).trans' (same_new hp)) ⟨a5, b5, c5, hp_new hs5 hp⟩ hm (dt_tup upd_same (hys.same (same_new hp)))
      all_goals
        have p30 : (0 : Int) < (10 : Int) ^ (30 : Int).toNat := by
          rw [ten30]
          decide
        refine ⟨s, _, rfl, ⟨_, _, _, upd_same⟩, p30, fun n0 H3 n1 n2 but3 src3 => ?_⟩
        obtain ⟨a3, b3, c3, hs3⟩ := src3
        rw [ten30] at n2
        have but1 : But s H H3 := But.upd.trans but3
        walk_at "s"
        · exact q _ _ _ (but1.trans But.upd) ⟨_, _, _, upd_same⟩ (mem_int (by rw [ten31]; omega)) (dt_int n0)
        · exact q _ _ _ (but1.trans But.upd) ⟨_, _, _, upd_same⟩ (mem_int (by rw [ten31]; omega)) (dt_int _)
end
end K66W
set_option Elab.async false
set_option linter.all false
set_option maxRecDepth 100000
set_option maxHeartbeats 4000000
namespace K66W
open PySem PySem.Spec PyProof.Rows L2 TL LW PT
local macro_rules | `(tactic| walk_at "ne") => `(tactic| first
  | (with_reducible assumption)
  | exact Ne.symm (by assumption)
  | (with_reducible exact ne_of_none (by assumption) (by assumption))
  | (with_reducible exact (ne_of_none (by assumption) (by assumption)).symm)
  | (apply ne_of_none; (case h' => assumption); (case h => walk_at "hp"))
  | (apply Ne.symm; apply ne_of_none; (case h' => assumption); (case h => walk_at "hp")))
local macro_rules | `(tactic| walk_at "hp") => `(tactic| first
  | (with_reducible assumption)
  | exact upd_same
  | (with_reducible exact hp_new (by assumption) (by assumption))
  | (apply hp_new; (case n => assumption); (case h => walk_at "hp"))
  | (refine (upd_ne ?ne).trans ?hp; (case ne => walk_at "ne"); (case hp => walk_at "hp")))
local macro_rules | `(tactic| walk_at "sq") => `(tactic| first
  | ((with_reducible show SqL _ _ _ _); assumption)
  | ((with_reducible show SqT _ _ _ _); assumption)
  | exact SqL.of (by assumption)
  | exact SqL.of upd_same
  | exact SqT.of (by assumption)
  | exact SqT.of upd_same
  | (apply SqL.of; walk_at "hp")
  | (apply SqT.of; walk_at "hp"))
local macro_rules | `(tactic| walk_at "len") => `(tactic| first
  | (with_reducible assumption)
  | exact sz_small (by omega)
  | exact sz_less (by omega)
  | decide
  | (refine sz_small ?_; simp only [List.length_append, List.length_cons, List.length_nil, List.length_map, str_len]; omega)
  | (refine sz_less ?_; simp only [List.length_append, List.length_cons, List.length_nil, List.length_map, str_len]; omega))
local macro_rules | `(tactic| walk_at "cond") => `(tactic| first
  | omega
  | (split <;> omega)
  | (with_reducible assumption)
  | exact .inl ⟨by omega, by omega⟩
  | exact .inr ⟨by omega, by omega⟩
  | exact ⟨by omega, by omega⟩
  | (show (0 : Int) < _; omega)
  | (show (0 : Int) < _; decide +kernel)
  | exact ⟨by omega, by omega, by decide⟩
  | walk_at "len"
  | rfl
  | (show CMulW _ _; unfold CMulW; decide +kernel)
  | exact ⟨_, rfl⟩
  | decide +kernel
  | exact ⟨_, by walk_at "sq"⟩
  | exact .inl ⟨rfl, _, by walk_at "sq"⟩)
local macro_rules | `(tactic| walk_at "at") => `(tactic| first
  | (with_reducible assumption)
  | exact atI_nat (by assumption)
  | exact atI_last _ _
  | exact atI_nat (j := 0) rfl
  | exact atI_nat (j := 1) rfl
  | exact atI_nat (j := 2) rfl
  | exact atI_nat (j := 3) rfl
  | exact atI_nat (j := 4) rfl)
local macro_rules | `(tactic| walk_at "ix") => `(tactic| first
  | (with_reducible assumption)
  | (with_reducible exact ixN_0 (by simp; done))
  | (with_reducible exact ixN_1 (by simp; done))
  | (with_reducible exact ixN_2 (by simp; done))
  | (with_reducible exact Evl.ixN_nat (by assumption))
  | (with_reducible exact Evl.ixN_nat (by omega)))
local macro_rules | `(tactic| walk_at "v") => `(tactic| first
  | exact val_var rfl
  | (with_reducible exact val_c)
  | (with_reducible apply val_orV; (case ha => walk_at "v"); (case hb => walk_at "v"))
  | (with_reducible apply val_andV; (case ha => walk_at "v"); (case hb => walk_at "v"))
  | (with_reducible apply val_notV; walk_at "v")
  | (with_reducible apply val_ifS; (case h => walk_at "w"); (case ha => walk_at "v"); (case hb => walk_at "v"))
  | (with_reducible apply val_ifI; (case h => walk_at "w"); (case ha => walk_at "v"); (case hb => walk_at "v"))
  | (with_reducible apply val_ifB; (case h => walk_at "w"); (case ha => walk_at "v"); (case hb => walk_at "v"))
  | (with_reducible apply val_eqS; (case ha => walk_at "v"); (case hb => walk_at "v"))
  | (with_reducible apply val_eqI; (case ha => walk_at "v"); (case hb => walk_at "v"))
  | (with_reducible apply val_neS; (case ha => walk_at "v"); (case hb => walk_at "v"))
  | (with_reducible apply val_neI; (case ha => walk_at "v"); (case hb => walk_at "v"))
  | (with_reducible apply val_op; (case ha => walk_at "v"); (case hb => walk_at "v"); (case hr => exact fun Q q => ⟨_, _, rfl, rfl, q⟩)))
local macro_rules | `(tactic| walk_at "w") => `(tactic| first
  | (with_reducible apply ans_or2; (case h1 => walk_at "w"); (case h2 => walk_at "w"))
  | (with_reducible apply ans_and2; (case h1 => walk_at "w"); (case h2 => walk_at "w"))
  | (with_reducible apply ans_not; walk_at "w")
  | (with_reducible apply ans_test; walk_at "v")
  | (with_reducible apply ans_val; walk_at "v"))
local macro_rules | `(tactic| walk_at "s2") => `(tactic| first
  | refine ⟨_, rfl, ?_⟩
  | refine ⟨_, _, rfl, rfl, ?_⟩
  | (refine And.intro ?cc ?_; (case cc => walk_at "cond"))
  | refine ⟨_, _, _, _, rfl, rfl, by walk_at "sq", by walk_at "at", ?_⟩
  | refine ⟨_, _, _, _, rfl, rfl, by walk_at "hp", by walk_at "ix", ?_⟩
  | refine ⟨_, _, _, _, rfl, rfl, by walk_at "hp", by walk_at "hp", by walk_at "len", ?_⟩
  | refine ⟨_, _, _, rfl, rfl, by walk_at "len", by walk_at "at", ?_⟩
  | refine ⟨_, _, _, rfl, rfl, by walk_at "hp", by walk_at "len", ?_⟩
  | refine ⟨_, _, _, rfl, rfl, by walk_at "hp", by walk_at "at", ?_⟩
  | refine ⟨_, _, rfl, rfl, by walk_at "sq", ?_⟩
  | refine ⟨_, _, rfl, rfl, by walk_at "len", ?_⟩
  | refine ⟨_, _, rfl, by walk_at "sq", ?_⟩
  | refine ⟨_, _, rfl, .inl (by walk_at "sq"), ?_⟩
  | refine ⟨_, _, rfl, .inr (by walk_at "sq"), ?_⟩
  | refine ⟨_, _, rfl, by walk_at "sq", rfl, ?_⟩
  | refine ⟨_, fun _ _ h => h, ?_⟩
  | refine .inl ⟨_, rfl, ?_⟩
  | refine ⟨_, _, .type "int", .type _, true, rfl, ClsV.ty _, .base (.int _), kit_ty (by decide +kernel), ?_⟩
  | refine ⟨_, _, .type "int", .type _, false, rfl, ClsV.ty _, .base (.int _), kit_ty (by decide +kernel), ?_⟩
  | refine ⟨_, _, .type "bool", .type _, true, rfl, ClsV.ty _, .base (.bl _), kit_ty (by decide +kernel), ?_⟩
  | refine ⟨_, _, .type "bool", .type _, false, rfl, ClsV.ty _, .base (.bl _), kit_ty (by decide +kernel), ?_⟩
  | refine ⟨_, _, .type "str", .type _, true, rfl, ClsV.ty _, .base (.str _), kit_ty (by decide +kernel), ?_⟩
  | refine ⟨_, _, .type "str", .type _, false, rfl, ClsV.ty _, .base (.str _), kit_ty (by decide +kernel), ?_⟩
  | refine ⟨_, _, .type "NoneType", .type _, true, rfl, ClsV.ty _, .base (.non), kit_ty (by decide +kernel), ?_⟩
  | refine ⟨_, _, .type "NoneType", .type _, false, rfl, ClsV.ty _, .base (.non), kit_ty (by decide +kernel), ?_⟩
  | refine ⟨_, _, .type "list", .type _, true, rfl, ClsV.ty _, .base (.lst (by walk_at "hp")), kit_ty (by decide +kernel), ?_⟩
  | refine ⟨_, _, .type "list", .type _, false, rfl, ClsV.ty _, .base (.lst (by walk_at "hp")), kit_ty (by decide +kernel), ?_⟩
  | refine ⟨_, _, .type "tuple", .type _, true, rfl, ClsV.ty _, .base (.tup (by walk_at "hp")), kit_ty (by decide +kernel), ?_⟩
  | refine ⟨_, _, .type "tuple", .type _, false, rfl, ClsV.ty _, .base (.tup (by walk_at "hp")), kit_ty (by decide +kernel), ?_⟩
  | fail)
local macro_rules | `(tactic| walk_at "s1") => `(tactic| first
  | (with_reducible refine go_gcons ?_)
  | (with_reducible refine go_gnil ?_)
  | (with_reducible refine go_seqM ?_)
  | (with_reducible refine go_nextM ?_)
  | (with_reducible refine go_contM ?_)
  | (with_reducible refine go_brkM ?_)
  | (with_reducible refine go_retM ?_)
  | (with_reducible refine go_asgM ?_)
  | (with_reducible refine go_test ?_)
  | (with_reducible refine go_rI0 ?_)
  | (with_reducible refine go_op ?_)
  | (with_reducible refine go_var rfl ?_)
  | ((with_reducible show tFor (iRng1 _) _ _ _ _ _); refine (show iRng1 _ _ _ _ from ?_))
  | (with_reducible refine go_rng1 ?_)
  | (with_reducible refine go_c ?_)
  | (with_reducible apply go_pick; (case hs => walk_at "hp"); (case h0 => walk_at "cond"); (case h1 => walk_at "cond"); (case' q => intro k a b c h0 h1))
  | (with_reducible refine go_nil ?_)
  | (with_reducible refine go_cons ?_)
  | (with_reducible refine go_call ?_)
  | (with_reducible refine go_cb ?_)
  | (with_reducible refine go_next ?_)
  | (with_reducible refine go_cont ?_)
  | (with_reducible refine go_ret ?_)
  | (with_reducible refine go_name ?_)
  | (with_reducible refine go_seq ?_)
  | (with_reducible refine go_asg ?_)
  | (with_reducible apply go_or; (case h => walk_at "v"))
  | (with_reducible apply go_and; (case h => walk_at "v"))
  | (with_reducible apply go_andL; (case h => walk_at "v"); (case' h1 => intro e); (case' h2 => intro e))
  | (with_reducible apply go_orL; (case h => walk_at "v"); (case' h1 => intro e); (case' h2 => intro e))
  | (with_reducible apply go_ifE; (case h => walk_at "v"))
  | (with_reducible apply go_ifOr; (case h => walk_at "w"); (case' h1 => intro e); (case' h2 => intro e))
  | (with_reducible apply go_ifAnd; (case h => walk_at "w"); (case' h1 => intro e); (case' h2 => intro e))
  | (with_reducible refine go_min ?_)
  | (with_reducible refine iteT ?_)
  | (with_reducible refine iteF ?_)
  | (with_reducible refine iteD (fun _ => ?_) (fun e => absurd rfl e))
  | (with_reducible refine iteS (fun e => ?_) (fun e => ?_))
  | (with_reducible refine iteI (fun e => ?_) (fun e => ?_))
  | (with_reducible refine iteSn (fun e => ?_) (fun e => ?_))
  | (with_reducible refine iteIn (fun e => ?_) (fun e => ?_))
  | (with_reducible refine iteD (fun e => ?_) (fun e => ?_))
  | (with_reducible refine iteDn (fun e => ?_) (fun e => ?_))
  | (with_reducible refine ite2 (fun e => ?_) (fun e => ?_))
  | (refine fun (p : Addr) (hp : _ = none) => ?_)
  | ((conv => whnf); walk_at "s2")
  | fail)
local macro_rules | `(tactic| walk_at "s") => `(tactic| repeat' (first
  | (with_reducible refine go_gcons ?_)
  | (with_reducible refine go_gnil ?_)
  | (with_reducible refine go_seqM ?_)
  | (with_reducible refine go_nextM ?_)
  | (with_reducible refine go_contM ?_)
  | (with_reducible refine go_brkM ?_)
  | (with_reducible refine go_retM ?_)
  | (with_reducible refine go_asgM ?_)
  | (with_reducible refine go_test ?_)
  | (with_reducible refine go_rI0 ?_)
  | (with_reducible refine go_op ?_)
  | (with_reducible refine go_var rfl ?_)
  | ((with_reducible show tFor (iRng1 _) _ _ _ _ _); refine (show iRng1 _ _ _ _ from ?_))
  | (with_reducible refine go_rng1 ?_)
  | (with_reducible refine go_c ?_)
  | (with_reducible apply go_pick; (case hs => walk_at "hp"); (case h0 => walk_at "cond"); (case h1 => walk_at "cond"); (case' q => intro k a b c h0 h1))
  | (with_reducible refine go_nil ?_)
  | (with_reducible refine go_cons ?_)
  | (with_reducible refine go_call ?_)
  | (with_reducible refine go_cb ?_)
  | (with_reducible refine go_next ?_)
  | (with_reducible refine go_cont ?_)
  | (with_reducible refine go_ret ?_)
  | (with_reducible refine go_name ?_)
  | (with_reducible refine go_seq ?_)
  | (with_reducible refine go_asg ?_)
  | (with_reducible apply go_or; (case h => walk_at "v"))
  | (with_reducible apply go_and; (case h => walk_at "v"))
  | (with_reducible apply go_andL; (case h => walk_at "v"); (case' h1 => intro e); (case' h2 => intro e))
  | (with_reducible apply go_orL; (case h => walk_at "v"); (case' h1 => intro e); (case' h2 => intro e))
  | (with_reducible apply go_ifE; (case h => walk_at "v"))
  | (with_reducible apply go_ifOr; (case h => walk_at "w"); (case' h1 => intro e); (case' h2 => intro e))
  | (with_reducible apply go_ifAnd; (case h => walk_at "w"); (case' h1 => intro e); (case' h2 => intro e))
  | (with_reducible refine go_min ?_)
  | (with_reducible refine iteT ?_)
  | (with_reducible refine iteF ?_)
  | (with_reducible refine iteD (fun _ => ?_) (fun e => absurd rfl e))
  | (with_reducible refine iteS (fun e => ?_) (fun e => ?_))
  | (with_reducible refine iteI (fun e => ?_) (fun e => ?_))
  | (with_reducible refine iteSn (fun e => ?_) (fun e => ?_))
  | (with_reducible refine iteIn (fun e => ?_) (fun e => ?_))
  | (with_reducible refine iteD (fun e => ?_) (fun e => ?_))
  | (with_reducible refine iteDn (fun e => ?_) (fun e => ?_))
  | (with_reducible refine ite2 (fun e => ?_) (fun e => ?_))
  | (refine fun (p : Addr) (hp : _ = none) => ?_)
  | ((conv => whnf); walk_at "s2")
  | fail))

theorem cut_to {z : Str} {k : Nat} : cutS z none (some (k : Int)) = str ((tl z).take k) := by
  show str (((tl z).drop (HT.sIx z.length 0 none)).take (HT.sIx z.length z.length (some (k : Int)) - HT.sIx z.length 0 none)) = _
  rw [HT.sIx_nat, HT.sIx_none, List.drop_zero, Nat.sub_zero, len_tl]
  by_cases h : k ≤ (tl z).length
  · rw [show min k (tl z).length = k by omega]
  · rw [show min k (tl z).length = (tl z).length by omega, List.take_of_length_le (Nat.le_refl _), List.take_of_length_le (by omega)]
theorem in_abc (c : Nat) : decide (c ∈ (Str.ofString "abcdefghijklmnopqrstuvwxyz").cps.toList) = small c := by
  rw [show (Str.ofString "abcdefghijklmnopqrstuvwxyz").cps.toList = (List.range 26).map (· + 97) by decide +kernel]
  unfold small
  rw [Bool.eq_iff_iff]
  simp only [decide_eq_true_eq, Bool.and_eq_true, List.mem_map, List.mem_range]
  exact ⟨fun ⟨a, h, e⟩ => by omega, fun h => ⟨c - 97, by omega, by omega⟩⟩
theorem in_abc09 (c : Nat) : decide (c ∈ (Str.ofString "abcdefghijklmnopqrstuvwxyz0123456789").cps.toList) = (small c || fig c) := by
  have e : (Str.ofString "abcdefghijklmnopqrstuvwxyz0123456789").cps.toList = (List.range 26).map (· + 97) ++ (List.range 10).map (· + 48) := by decide +kernel
  rw [e]
  unfold small fig
  rw [Bool.eq_iff_iff]
  simp only [decide_eq_true_eq, Bool.and_eq_true, Bool.or_eq_true, List.mem_append, List.mem_map, List.mem_range]
  exact ⟨fun h => h.elim (fun ⟨a, h, e⟩ => by omega) fun ⟨a, h, e⟩ => by omega, fun h => h.elim (fun h => .inl ⟨c - 97, by omega, by omega⟩) fun h => .inr ⟨c - 48, by omega, by omega⟩⟩
theorem in_09 (c : Nat) : decide (c ∈ (Str.ofString "0123456789").cps.toList) = fig c := by
  rw [show (Str.ofString "0123456789").cps.toList = (List.range 10).map (· + 48) by decide +kernel]
  unfold fig
  rw [Bool.eq_iff_iff]
  simp only [decide_eq_true_eq, Bool.and_eq_true, List.mem_map, List.mem_range]
  exact ⟨fun ⟨a, h, e⟩ => by omega, fun h => ⟨c - 48, by omega, by omega⟩⟩
theorem filt_nil {f : Nat → Bool} {l : List Nat} : ((l.filter fun c => !f c).map fun c => V.str (sg c)).length = 0 ↔ l.all f = true := by
  rw [List.length_map, List.length_eq_zero_iff, List.filter_eq_nil_iff, List.all_eq_true]
  constructor
  · intro h x hx
    simpa using h x hx
  · intro h x hx
    simpa using h x hx
section
variable {P : Program} {w : World} {K : PySem.W.Frag} {mg : Str → Option Value} {base : Heap}
/-! ### a word, the law's way -/
def spLWord : Sp := fun vs H Q _ => ∃ (z : Str), vs = [.str z] ∧ tl z ≠ [] ∧ z.length ≤ 100000 ∧
  ∀ (a : Addr) (v : V) (b : Bool) H', Same H H' → H' a = some (.tup [.bl b, v]) → (∀ d, pw (tl z) = some d → b = true ∧ Dt H' v d) → (pw (tl z) = none → b = false) → Q (.ref a) H'
theorem ok_lword (T : Top K mg) : FnOk P w K mg base CX0 1 T.a_law_word T.d_law_word ["word"] spLWord := by
  refine T.F_law_word.ok sc_law_word (fun vs H Q E h => ?_) (fun cdv A outer s H vs Q E hr h => ?_)
  · obtain ⟨z, rfl, _⟩ := h
    rfl
  · obtain ⟨z, rfl, hn, hz, q⟩ := h
    refine ⟨_, (Evl.pss_cut (ps_set (i := 1) sc_law_word.nd rfl (.inl rfl) (pe_ifExp (pt_cmpR op_eq (pe_slice sl_str (pv 0) po_none (po_some pe_int)) pe_str (nomark _)) (pe_slice sl_str (pv 0) (po_some pe_int) po_none) (pv 0)))
    (pss_cons (ps_if (pt_cmpR op_eq (pv 0) pe_str (nomark _))
    (pss_one (ps_ret (pe_tup (pa_cons pe_bl (pa_cons pe_non pa_nil)))))
    pss_nil)
    (Evl.pss_cut (ps_if (PW.pt (pw_and (pt_cmpR op_ne (pv 1) pe_str (nomark _)) (pw_and1 (pt_cmpR op_eq (pe_callB call_len_seq (by rfl) T.m_len (by decide +kernel) (pa_cons (pe_lc (own := [("sign", 3)]) rfl sc_law_word.nd (pi_str (pv 1)) (blkOk_by (own := [("sign", 3)]) (N := ["word", "figures", "good", "sign"]) (sc := defScope s_law_word) (by decide +kernel)) (fun _ _ _ _ _ => (pg_name (i := 3) sc_law_word.nd rfl (.inl rfl))) (fun _ _ _ _ _ => pts_one (pt_cmpR op_notIn_sign (pv 3) pe_str (by rfl))) (fun _ _ _ _ _ => (pv 3))) pa_nil)) pe_int (nomark _)))))
    (pss_one (ps_ret (pe_tup (pa_cons (pe_and (pe_cmpR op_le (pe_callB call_len_str (by rfl) T.m_len (by decide +kernel) (pa_cons (pv 1) pa_nil)) pe_int (nomark _)) (pe_one (pe_or (pe_cmpR op_ne (pe_ix ix_str (pv 1) pe_int (fun _ _ => rfl)) pe_str (nomark _)) (pe_one (pe_cmpR op_eq (pv 0) pe_str (nomark _)))))) (pa_cons (pe_ifExp (pt_cmpR op_le (pe_callB call_len_str (by rfl) T.m_len (by decide +kernel) (pa_cons (pv 1) pa_nil)) pe_int (nomark _)) (pe_callTy (call_int_big T.dig) (by rfl) T.m_int (by decide +kernel) (pa_cons (pv 0) pa_nil)) pe_int) pa_nil)))))
    pss_nil)
    (pss_cons (ps_set (i := 2) sc_law_word.nd rfl (.inl rfl) (pe_and (pe_cmpR op_ne (pv 0) pe_str (nomark _)) (pe_and (pe_cmpR op_in_sign (pe_ix ix_str (pv 0) pe_int (fun _ _ => rfl)) pe_str (by rfl)) (pe_one (pe_cmpR op_eq (pe_callB call_len_seq (by rfl) T.m_len (by decide +kernel) (pa_cons (pe_lc (own := [("sign", 3)]) rfl sc_law_word.nd (pi_str (pv 0)) (blkOk_by (own := [("sign", 3)]) (N := ["word", "figures", "good", "sign"]) (sc := defScope s_law_word) (by decide +kernel)) (fun _ _ _ _ _ => (pg_name (i := 3) sc_law_word.nd rfl (.inl rfl))) (fun _ _ _ _ _ => pts_one (pt_cmpR op_notIn_sign (pv 3) pe_str (by rfl))) (fun _ _ _ _ _ => (pv 3))) pa_nil)) pe_int (nomark _))))))
    (pss_one (ps_ret (pe_tup (pa_cons (pv 2) (pa_cons (pv 0) pa_nil))))))))), ?_⟩
    obtain ⟨c, r, hz0⟩ : ∃ c r, tl z = c :: r := by
      cases e : tl z with
      | nil => exact absurd e hn
      | cons c r => exact ⟨c, r, rfl⟩
    have hat : atI z.cps.toList 0 = some c := atI_nat (j := 0) (by show (tl z)[0]? = _; rw [hz0]; rfl)
    have d1 : Str.ofString "-" = sg 45 := ext_tl (by decide +kernel)
    have d0 : Str.ofString "0" = sg 48 := ext_tl (by decide +kernel)
    have em : tl (Str.ofString "") = [] := by decide +kernel
    refine go_cutM (fun σ H' => ∃ f : Str, σ = [some (.str z), some (.str f), none, none] ∧ H' = H ∧ tl f = figs (tl z)) ?_ fun σ H' hM => ?_
    · have c1 : cutS z none (some 1) = sg c := by
        rw [show (1 : Int) = ((1 : Nat) : Int) from rfl, cut_to, hz0]
        rfl
      walk_at "s"
      · rename_i e
        have hc : c = 45 := sg_inj (by rw [← d1, ← c1]; exact e)
        rw [cut_from1, hz0, tl_str]
        show r = if c = 45 then r else c :: r
        rw [if_pos hc]
      · rename_i e
        have hc : c ≠ 45 := fun x => e (by rw [c1, d1, x])
        rw [hz0]
        show c :: r = if c = 45 then r else c :: r
        rw [if_neg hc]
    obtain ⟨f, rfl, rfl, hf⟩ := hM
    have fl : f.length ≤ 100000 := by
      rw [len_tl, hf, hz0]
      rw [len_tl, hz0, List.length_cons] at hz
      have ef : figs (c :: r) = if c = 45 then r else c :: r := rfl
      rw [ef]
      by_cases hc : c = 45
      · rw [if_pos hc]
        omega
      · rw [if_neg hc, List.length_cons]
        omega
    have fe : f = Str.ofString "" ↔ figs (tl z) = [] := by
      rw [← hf, ← em]
      exact ⟨fun x => congrArg tl x, fun x => ext_tl x⟩
    have fsz : f.length ≤ sizeLine := sz_small (by omega)
    have zsz : z.length ≤ sizeLine := sz_small (by omega)
    walk_at "s"
    · rename_i e p hp
      have ez : tl z = [45] := by
        rw [e, d1]
      refine q p _ true _ (same_new hp) upd_same (fun d hd => ⟨rfl, ?_⟩) fun hd => ?_
      · rw [ez, pw_dash] at hd
        cases hd
        exact dt_none
      · rw [ez, pw_dash] at hd
        cases hd
    · rename_i e
      have n45 : tl z ≠ [45] := fun x => e (by rw [d1]; exact ext_tl x)
      refine go_cutM (fun σ H2 => σ = [some (.str z), some (.str f), none, none] ∧ Same H' H2 ∧ ¬ (figs (tl z) ≠ [] ∧ (figs (tl z)).all fig = true)) ?_ fun σ H2 hM => ?_
      · walk_at "s"
        · rename_i e1 D hD
          refine lc_strL (fun j H2 => Same H' H2 ∧ H2 D = some (.lst ((((tl f).take j).filter fun c => !fig c).map fun c => V.str (sg c)))) ?_ ?_ ?_
          · exact ⟨same_new hD, upd_same⟩
          · intro j d H2 hj hP
            obtain ⟨sm, h1⟩ := hP
            have hjl := (List.getElem?_eq_some_iff.mp hj).1
            rw [← len_tl] at hjl
            have hfl : (((tl f).take j).filter fun c => !fig c).length ≤ 100000 := by
              refine Nat.le_trans (List.length_filter_le _ _) ?_
              rw [List.length_take]
              omega
            walk_at "s"
            · rename_i e2
              have nf : fig d = false := by
                rw [← in_09]
                exact decide_eq_false e2
              refine ⟨_, h1, sz_less (by rw [List.length_map]; omega), same_mut sm hD, ?_⟩
              rw [upd_same, List.take_add_one, hj, List.filter_append, List.map_append]
              simp [nf]
            · rename_i e2
              have nf : fig d = true := by
                rw [← in_09]
                exact decide_eq_true e2
              rw [h1, List.take_add_one, hj, List.filter_append, List.map_append]
              simp [nf]
          · intro H2 hP
            obtain ⟨sm, h1⟩ := hP
            rw [List.take_length] at h1
            have ne : figs (tl z) ≠ [] := fun x => e1 (fe.mpr x)
            obtain ⟨x, y, hf0⟩ : ∃ x y, tl f = x :: y := by
              cases k : tl f with
              | nil => exact absurd (hf ▸ k) ne
              | cons x y => exact ⟨x, y, rfl⟩
            have hatf : atI f.cps.toList 0 = some x := atI_nat (j := 0) (by show (tl f)[0]? = _; rw [hf0]; rfl)
            have l0 : f.length ≤ 1000 → z.length ≤ 4300 := fun k => by
              have := figs_len (tl z)
              rw [len_tl, hf] at k
              rw [len_tl]
              omega
            have two : (z = Str.ofString "0") ↔ tl z = [48] := ⟨fun k => by rw [k, d0], fun k => by rw [d0]; exact ext_tl k⟩
            have hh : (figs (tl z)).head? = some x := by
              rw [← hf, hf0]
              rfl
            have flz : f.length = (figs (tl z)).length := by rw [len_tl, hf]
            have allf : (((((tl f).filter fun c => !fig c).map fun c => V.str (sg c)).length : Nat) : Int) = 0 → (figs (tl z)).all fig = true := fun k => by
              have := filt_nil.mp (show ((((tl f).filter fun c => !fig c).map fun c => V.str (sg c)).length) = 0 by omega)
              rw [hf] at this
              exact this
            have ok : ∀ k : f.length ≤ 1000, ((figs (tl z)).head? ≠ some 48 ∨ tl z = [48]) → (figs (tl z)).all fig = true → pw (tl z) = some (.int (numV (tl z))) := fun k h a => pw_num n45 ne a (by omega) h
            have no : (figs (tl z)).all fig = true → ¬ (f.length ≤ 1000 ∧ ((figs (tl z)).head? ≠ some 48 ∨ tl z = [48])) → pw (tl z) = none := fun a h => pw_numBad n45 ne a (by rw [← flz]; exact h)
            walk_at "s"
            · rename_i g1 g2 g3 g4
              have a := allf g1
              have k : f.length ≤ 1000 := by omega
              have p := ok k (.inl (by rw [hh]; intro w; exact g3 (by rw [d0, Option.some.inj w]))) a
              refine ⟨_, _, rfl, int_reads a ne (l0 k), zsz, ?_⟩
              walk_at "s"
              rename_i r hr2
              refine q r _ true _ (sm.trans (same_new hr2)) upd_same (fun d hd => ⟨rfl, ?_⟩) fun hd => ?_
              · rw [p] at hd
                cases hd
                exact dt_int _
              · rw [p] at hd
                cases hd
            · rename_i g1 g2 g3 g4 r hr2
              exact absurd g2 g4
            · rename_i g1 g2 g3 g4
              have a := allf g1
              have k : f.length ≤ 1000 := by omega
              refine ⟨_, _, rfl, int_reads a ne (l0 k), zsz, ?_⟩
              walk_at "s"
              rename_i r hr2
              have hx48 : x = 48 := sg_inj (by rw [← d0]; exact g3)
              rw [dec_eqS]
              by_cases w : tl z = [48]
              · have p := ok k (.inr w) a
                rw [decide_eq_true (two.mpr w)]
                refine q r _ true _ (sm.trans (same_new hr2)) upd_same (fun d hd => ⟨rfl, ?_⟩) fun hd => ?_
                · rw [p] at hd
                  cases hd
                  exact dt_int _
                · rw [p] at hd
                  cases hd
              · have p := no a (fun z => z.2.elim (fun u => u (by rw [hh, hx48])) w)
                rw [decide_eq_false (fun u => w (two.mp u))]
                refine q r _ false _ (sm.trans (same_new hr2)) upd_same (fun d hd => ?_) fun _ => rfl
                rw [p] at hd
                cases hd
            · rename_i g1 g2 g3 g4 r hr2
              exact absurd g2 g4
            · rename_i g1 g2 g3
              exact absurd g3 g2
            · rename_i g1 g2 g3 r hr2
              have p := no (allf g1) (fun z => g2 (by omega))
              refine q r _ false _ (sm.trans (same_new hr2)) upd_same (fun d hd => ?_) fun _ => rfl
              rw [p] at hd
              cases hd
            · rename_i g1
              exact fun k => g1 (by rw [filt_nil.mpr (by rw [hf]; exact k.2)]; rfl)
        · rename_i e1
          exact ⟨Same.refl _, fun k => k.1 (fe.mp e1)⟩
      · obtain ⟨rfl, sm, hno⟩ := hM
        have ptx := pw_text n45 hno
        walk_at "s"
        · rename_i e1 p hp
          exact absurd (by simpa using e1) (fun k : z = Str.ofString "" => hn (by rw [k, em]))
        · rename_i e1 e2 D hD
          have sc : small c = true := by
            rw [← in_abc]
            exact decide_eq_true e2
          refine lc_strL (fun j H3 => Same H2 H3 ∧ H3 D = some (.lst ((((tl z).take j).filter fun c => !(small c || fig c)).map fun c => V.str (sg c)))) ?_ ?_ ?_
          · exact ⟨same_new hD, upd_same⟩
          · intro j d H3 hj hP
            obtain ⟨sm3, h1⟩ := hP
            have hjl := (List.getElem?_eq_some_iff.mp hj).1
            rw [← len_tl] at hjl
            have hfl : (((tl z).take j).filter fun c => !(small c || fig c)).length ≤ 100000 := by
              refine Nat.le_trans (List.length_filter_le _ _) ?_
              rw [List.length_take]
              omega
            walk_at "s"
            · rename_i e2
              have nf : (small d || fig d) = false := by
                rw [← in_abc09]
                exact decide_eq_false e2
              refine ⟨_, h1, sz_less (by rw [List.length_map]; omega), same_mut sm3 hD, ?_⟩
              rw [upd_same, List.take_add_one, hj, List.filter_append, List.map_append, Option.toList_some, List.filter_cons, if_pos (by rw [nf]; rfl)]
              rfl
            · rename_i e2
              have nf : (small d || fig d) = true := by
                rw [← in_abc09]
                exact decide_eq_true e2
              rw [h1, List.take_add_one, hj, List.filter_append, List.map_append, Option.toList_some, List.filter_cons, if_neg (by rw [nf]; decide)]
              simp
          · intro H3 hP
            obtain ⟨sm3, h1⟩ := hP
            rw [List.take_length] at h1
            have iw : isWord (tl z) = (tl z).all fun c => small c || fig c := by
              unfold isWord
              rw [hz0]
              show (small c && _) = _
              rw [sc]
              rfl
            walk_at "s"
            rename_i r hr2
            have eb : decide (V.int ((((((tl z).filter fun c => !(small c || fig c)).map fun c => V.str (sg c)).length : Nat)) : Int) = V.int 0) = isWord (tl z) := by
              rw [dec_eqI, iw]
              have k := filt_nil (f := fun c => small c || fig c) (l := tl z)
              cases w : (tl z).all fun c => small c || fig c with
              | true =>
                rw [k.mpr w]
                rfl
              | false =>
                refine decide_eq_false fun u => ?_
                have := k.mp (by omega)
                rw [w] at this
                cases this
            rw [eb]
            cases w : isWord (tl z) with
            | true =>
              rw [w, if_pos rfl, str_tl] at ptx
              refine q r _ true _ ((sm.trans sm3).trans (same_new hr2)) upd_same (fun d hd => ⟨rfl, ?_⟩) fun hd => ?_
              · rw [ptx] at hd
                cases hd
                exact dt_str z
              · rw [ptx] at hd
                cases hd
            | false =>
              rw [w, if_neg (by decide)] at ptx
              refine q r _ false _ ((sm.trans sm3).trans (same_new hr2)) upd_same (fun d hd => ?_) fun _ => rfl
              rw [ptx] at hd
              cases hd
        · rename_i e1 e2 p hp
          have sc : small c = false := by
            rw [← in_abc]
            exact decide_eq_false e2
          have iw : isWord (tl z) = false := by
            unfold isWord
            rw [hz0]
            show (small c && _) = _
            rw [sc]
            rfl
          rw [iw, if_neg (by decide)] at ptx
          refine q p _ false _ (sm.trans (same_new hp)) upd_same (fun d hd => ?_) fun _ => rfl
          rw [ptx] at hd
          cases hd
end
end K66W
set_option Elab.async false
set_option linter.all false
set_option maxRecDepth 100000
set_option maxHeartbeats 4000000
namespace K66W
open PySem PySem.Spec PyProof.Rows L2 TL LW PT
local macro_rules | `(tactic| walk_at "ne") => `(tactic| first
  | (with_reducible assumption)
  | exact Ne.symm (by assumption)
  | (with_reducible exact ne_of_none (by assumption) (by assumption))
  | (with_reducible exact (ne_of_none (by assumption) (by assumption)).symm)
  | (apply ne_of_none; (case h' => assumption); (case h => walk_at "hp"))
  | (apply Ne.symm; apply ne_of_none; (case h' => assumption); (case h => walk_at "hp")))
local macro_rules | `(tactic| walk_at "hp") => `(tactic| first
  | (with_reducible assumption)
  | exact upd_same
  | (with_reducible exact hp_new (by assumption) (by assumption))
  | (apply hp_new; (case n => assumption); (case h => walk_at "hp"))
  | (refine (upd_ne ?ne).trans ?hp; (case ne => walk_at "ne"); (case hp => walk_at "hp")))
local macro_rules | `(tactic| walk_at "sq") => `(tactic| first
  | ((with_reducible show SqL _ _ _ _); assumption)
  | ((with_reducible show SqT _ _ _ _); assumption)
  | exact SqL.of (by assumption)
  | exact SqL.of upd_same
  | exact SqT.of (by assumption)
  | exact SqT.of upd_same
  | (apply SqL.of; walk_at "hp")
  | (apply SqT.of; walk_at "hp"))
local macro_rules | `(tactic| walk_at "len") => `(tactic| first
  | (with_reducible assumption)
  | exact sz_small (by omega)
  | exact sz_less (by omega)
  | decide
  | (refine sz_small ?_; simp only [List.length_append, List.length_cons, List.length_nil, List.length_map, str_len]; omega)
  | (refine sz_less ?_; simp only [List.length_append, List.length_cons, List.length_nil, List.length_map, str_len]; omega))
local macro_rules | `(tactic| walk_at "cond") => `(tactic| first
  | omega
  | (split <;> omega)
  | (with_reducible assumption)
  | exact .inl ⟨by omega, by omega⟩
  | exact .inr ⟨by omega, by omega⟩
  | exact ⟨by omega, by omega⟩
  | (show (0 : Int) < _; omega)
  | (show (0 : Int) < _; decide +kernel)
  | exact ⟨by omega, by omega, by decide⟩
  | walk_at "len"
  | rfl
  | (show CMulW _ _; unfold CMulW; decide +kernel)
  | exact ⟨_, rfl⟩
  | decide +kernel
  | exact ⟨_, by walk_at "sq"⟩
  | exact .inl ⟨rfl, _, by walk_at "sq"⟩)
local macro_rules | `(tactic| walk_at "at") => `(tactic| first
  | (with_reducible assumption)
  | exact atI_nat (by assumption)
  | exact atI_last _ _
  | exact atI_nat (j := 0) rfl
  | exact atI_nat (j := 1) rfl
  | exact atI_nat (j := 2) rfl
  | exact atI_nat (j := 3) rfl
  | exact atI_nat (j := 4) rfl)
local macro_rules | `(tactic| walk_at "ix") => `(tactic| first
  | (with_reducible assumption)
  | (with_reducible exact ixN_0 (by simp; done))
  | (with_reducible exact ixN_1 (by simp; done))
  | (with_reducible exact ixN_2 (by simp; done))
  | (with_reducible exact Evl.ixN_nat (by assumption))
  | (with_reducible exact Evl.ixN_nat (by omega)))
local macro_rules | `(tactic| walk_at "v") => `(tactic| first
  | exact val_var rfl
  | (with_reducible exact val_c)
  | (with_reducible apply val_orV; (case ha => walk_at "v"); (case hb => walk_at "v"))
  | (with_reducible apply val_andV; (case ha => walk_at "v"); (case hb => walk_at "v"))
  | (with_reducible apply val_notV; walk_at "v")
  | (with_reducible apply val_ifS; (case h => walk_at "w"); (case ha => walk_at "v"); (case hb => walk_at "v"))
  | (with_reducible apply val_ifI; (case h => walk_at "w"); (case ha => walk_at "v"); (case hb => walk_at "v"))
  | (with_reducible apply val_ifB; (case h => walk_at "w"); (case ha => walk_at "v"); (case hb => walk_at "v"))
  | (with_reducible apply val_eqS; (case ha => walk_at "v"); (case hb => walk_at "v"))
  | (with_reducible apply val_eqI; (case ha => walk_at "v"); (case hb => walk_at "v"))
  | (with_reducible apply val_neS; (case ha => walk_at "v"); (case hb => walk_at "v"))
  | (with_reducible apply val_neI; (case ha => walk_at "v"); (case hb => walk_at "v"))
  | (with_reducible apply val_op; (case ha => walk_at "v"); (case hb => walk_at "v"); (case hr => exact fun Q q => ⟨_, _, rfl, rfl, q⟩)))
local macro_rules | `(tactic| walk_at "w") => `(tactic| first
  | (with_reducible apply ans_or2; (case h1 => walk_at "w"); (case h2 => walk_at "w"))
  | (with_reducible apply ans_and2; (case h1 => walk_at "w"); (case h2 => walk_at "w"))
  | (with_reducible apply ans_not; walk_at "w")
  | (with_reducible apply ans_test; walk_at "v")
  | (with_reducible apply ans_val; walk_at "v"))
local macro_rules | `(tactic| walk_at "s2") => `(tactic| first
  | refine ⟨_, rfl, ?_⟩
  | refine ⟨_, _, rfl, rfl, ?_⟩
  | (refine And.intro ?cc ?_; (case cc => walk_at "cond"))
  | refine ⟨_, _, _, _, rfl, rfl, by walk_at "sq", by walk_at "at", ?_⟩
  | refine ⟨_, _, _, _, rfl, rfl, by walk_at "hp", by walk_at "ix", ?_⟩
  | refine ⟨_, _, _, _, rfl, rfl, by walk_at "hp", by walk_at "hp", by walk_at "len", ?_⟩
  | refine ⟨_, _, _, rfl, rfl, by walk_at "len", by walk_at "at", ?_⟩
  | refine ⟨_, _, _, rfl, rfl, by walk_at "hp", by walk_at "len", ?_⟩
  | refine ⟨_, _, _, rfl, rfl, by walk_at "hp", by walk_at "at", ?_⟩
  | refine ⟨_, _, rfl, rfl, by walk_at "sq", ?_⟩
  | refine ⟨_, _, rfl, rfl, by walk_at "len", ?_⟩
  | refine ⟨_, _, rfl, by walk_at "sq", ?_⟩
  | refine ⟨_, _, rfl, .inl (by walk_at "sq"), ?_⟩
  | refine ⟨_, _, rfl, .inr (by walk_at "sq"), ?_⟩
  | refine ⟨_, _, rfl, by walk_at "sq", rfl, ?_⟩
  | refine ⟨_, fun _ _ h => h, ?_⟩
  | refine .inl ⟨_, rfl, ?_⟩
  | refine ⟨_, _, .type "int", .type _, true, rfl, ClsV.ty _, .base (.int _), kit_ty (by decide +kernel), ?_⟩
  | refine ⟨_, _, .type "int", .type _, false, rfl, ClsV.ty _, .base (.int _), kit_ty (by decide +kernel), ?_⟩
  | refine ⟨_, _, .type "bool", .type _, true, rfl, ClsV.ty _, .base (.bl _), kit_ty (by decide +kernel), ?_⟩
  | refine ⟨_, _, .type "bool", .type _, false, rfl, ClsV.ty _, .base (.bl _), kit_ty (by decide +kernel), ?_⟩
  | refine ⟨_, _, .type "str", .type _, true, rfl, ClsV.ty _, .base (.str _), kit_ty (by decide +kernel), ?_⟩
  | refine ⟨_, _, .type "str", .type _, false, rfl, ClsV.ty _, .base (.str _), kit_ty (by decide +kernel), ?_⟩
  | refine ⟨_, _, .type "NoneType", .type _, true, rfl, ClsV.ty _, .base (.non), kit_ty (by decide +kernel), ?_⟩
  | refine ⟨_, _, .type "NoneType", .type _, false, rfl, ClsV.ty _, .base (.non), kit_ty (by decide +kernel), ?_⟩
  | refine ⟨_, _, .type "list", .type _, true, rfl, ClsV.ty _, .base (.lst (by walk_at "hp")), kit_ty (by decide +kernel), ?_⟩
  | refine ⟨_, _, .type "list", .type _, false, rfl, ClsV.ty _, .base (.lst (by walk_at "hp")), kit_ty (by decide +kernel), ?_⟩
  | refine ⟨_, _, .type "tuple", .type _, true, rfl, ClsV.ty _, .base (.tup (by walk_at "hp")), kit_ty (by decide +kernel), ?_⟩
  | refine ⟨_, _, .type "tuple", .type _, false, rfl, ClsV.ty _, .base (.tup (by walk_at "hp")), kit_ty (by decide +kernel), ?_⟩
  | fail)
local macro_rules | `(tactic| walk_at "s1") => `(tactic| first
  | (with_reducible refine go_gcons ?_)
  | (with_reducible refine go_gnil ?_)
  | (with_reducible refine go_seqM ?_)
  | (with_reducible refine go_nextM ?_)
  | (with_reducible refine go_contM ?_)
  | (with_reducible refine go_brkM ?_)
  | (with_reducible refine go_retM ?_)
  | (with_reducible refine go_asgM ?_)
  | (with_reducible refine go_test ?_)
  | (with_reducible refine go_rI0 ?_)
  | (with_reducible refine go_op ?_)
  | (with_reducible refine go_var rfl ?_)
  | ((with_reducible show tFor (iRng1 _) _ _ _ _ _); refine (show iRng1 _ _ _ _ from ?_))
  | (with_reducible refine go_rng1 ?_)
  | (with_reducible refine go_c ?_)
  | (with_reducible apply go_pick; (case hs => walk_at "hp"); (case h0 => walk_at "cond"); (case h1 => walk_at "cond"); (case' q => intro k a b c h0 h1))
  | (with_reducible refine go_nil ?_)
  | (with_reducible refine go_cons ?_)
  | (with_reducible refine go_call ?_)
  | (with_reducible refine go_cb ?_)
  | (with_reducible refine go_next ?_)
  | (with_reducible refine go_cont ?_)
  | (with_reducible refine go_ret ?_)
  | (with_reducible refine go_name ?_)
  | (with_reducible refine go_seq ?_)
  | (with_reducible refine go_asg ?_)
  | (with_reducible apply go_or; (case h => walk_at "v"))
  | (with_reducible apply go_and; (case h => walk_at "v"))
  | (with_reducible apply go_andL; (case h => walk_at "v"); (case' h1 => intro e); (case' h2 => intro e))
  | (with_reducible apply go_orL; (case h => walk_at "v"); (case' h1 => intro e); (case' h2 => intro e))
  | (with_reducible apply go_ifE; (case h => walk_at "v"))
  | (with_reducible apply go_ifOr; (case h => walk_at "w"); (case' h1 => intro e); (case' h2 => intro e))
  | (with_reducible apply go_ifAnd; (case h => walk_at "w"); (case' h1 => intro e); (case' h2 => intro e))
  | (with_reducible refine go_min ?_)
  | (with_reducible refine iteT ?_)
  | (with_reducible refine iteF ?_)
  | (with_reducible refine iteD (fun _ => ?_) (fun e => absurd rfl e))
  | (with_reducible refine iteS (fun e => ?_) (fun e => ?_))
  | (with_reducible refine iteI (fun e => ?_) (fun e => ?_))
  | (with_reducible refine iteSn (fun e => ?_) (fun e => ?_))
  | (with_reducible refine iteIn (fun e => ?_) (fun e => ?_))
  | (with_reducible refine iteD (fun e => ?_) (fun e => ?_))
  | (with_reducible refine iteDn (fun e => ?_) (fun e => ?_))
  | (with_reducible refine ite2 (fun e => ?_) (fun e => ?_))
  | (refine fun (p : Addr) (hp : _ = none) => ?_)
  | ((conv => whnf); walk_at "s2")
  | fail)
local macro_rules | `(tactic| walk_at "s") => `(tactic| repeat' (first
  | (with_reducible refine go_gcons ?_)
  | (with_reducible refine go_gnil ?_)
  | (with_reducible refine go_seqM ?_)
  | (with_reducible refine go_nextM ?_)
  | (with_reducible refine go_contM ?_)
  | (with_reducible refine go_brkM ?_)
  | (with_reducible refine go_retM ?_)
  | (with_reducible refine go_asgM ?_)
  | (with_reducible refine go_test ?_)
  | (with_reducible refine go_rI0 ?_)
  | (with_reducible refine go_op ?_)
  | (with_reducible refine go_var rfl ?_)
  | ((with_reducible show tFor (iRng1 _) _ _ _ _ _); refine (show iRng1 _ _ _ _ from ?_))
  | (with_reducible refine go_rng1 ?_)
  | (with_reducible refine go_c ?_)
  | (with_reducible apply go_pick; (case hs => walk_at "hp"); (case h0 => walk_at "cond"); (case h1 => walk_at "cond"); (case' q => intro k a b c h0 h1))
  | (with_reducible refine go_nil ?_)
  | (with_reducible refine go_cons ?_)
  | (with_reducible refine go_call ?_)
  | (with_reducible refine go_cb ?_)
  | (with_reducible refine go_next ?_)
  | (with_reducible refine go_cont ?_)
  | (with_reducible refine go_ret ?_)
  | (with_reducible refine go_name ?_)
  | (with_reducible refine go_seq ?_)
  | (with_reducible refine go_asg ?_)
  | (with_reducible apply go_or; (case h => walk_at "v"))
  | (with_reducible apply go_and; (case h => walk_at "v"))
  | (with_reducible apply go_andL; (case h => walk_at "v"); (case' h1 => intro e); (case' h2 => intro e))
  | (with_reducible apply go_orL; (case h => walk_at "v"); (case' h1 => intro e); (case' h2 => intro e))
  | (with_reducible apply go_ifE; (case h => walk_at "v"))
  | (with_reducible apply go_ifOr; (case h => walk_at "w"); (case' h1 => intro e); (case' h2 => intro e))
  | (with_reducible apply go_ifAnd; (case h => walk_at "w"); (case' h1 => intro e); (case' h2 => intro e))
  | (with_reducible refine go_min ?_)
  | (with_reducible refine iteT ?_)
  | (with_reducible refine iteF ?_)
  | (with_reducible refine iteD (fun _ => ?_) (fun e => absurd rfl e))
  | (with_reducible refine iteS (fun e => ?_) (fun e => ?_))
  | (with_reducible refine iteI (fun e => ?_) (fun e => ?_))
  | (with_reducible refine iteSn (fun e => ?_) (fun e => ?_))
  | (with_reducible refine iteIn (fun e => ?_) (fun e => ?_))
  | (with_reducible refine iteD (fun e => ?_) (fun e => ?_))
  | (with_reducible refine iteDn (fun e => ?_) (fun e => ?_))
  | (with_reducible refine ite2 (fun e => ?_) (fun e => ?_))
  | (refine fun (p : Addr) (hp : _ = none) => ?_)
  | ((conv => whnf); walk_at "s2")
  | fail))

section
variable {P : Program} {w : World} {K : PySem.W.Frag} {mg : Str → Option Value} {base : Heap}
/-! ### a line, the law's way -/
mutual
theorem dt_dp {K : PySem.W.Frag} {H : Hp} : ∀ (d : PyData) (v : V), Dt H v d → Dp K H v d
  | .none, _, h => by
    unfold Dt at h
    rw [h]
    exact .non
  | .bool b, _, h => by
    unfold Dt at h
    rw [h]
    exact .bl b
  | .int i, _, h => by
    unfold Dt at h
    rw [h]
    exact .int i
  | .str x, _, h => by
    unfold Dt at h
    rw [h]
    exact .str x
  | .list ds, _, h => by
    unfold Dt at h
    obtain ⟨a, xs, rfl, ha, hx⟩ := h
    exact .lst (SqL.of ha) (da_dp ds xs hx)
  | .tuple ds, _, h => by
    unfold Dt at h
    obtain ⟨a, xs, rfl, ha, hx⟩ := h
    exact .tup (SqT.of ha) (da_dp ds xs hx)
  | .dict _, _, h => by unfold Dt at h; exact h.elim
theorem da_dp {K : PySem.W.Frag} {H : Hp} : ∀ (ds : List PyData) (xs : List V), DtAll H xs ds → DpAll K H xs ds
  | [], _, h => by
    unfold DtAll at h
    rw [h]
    exact .nil
  | d :: ds, _, h => by
    unfold DtAll at h
    obtain ⟨v, vs, rfl, h1, h2⟩ := h
    exact .cons (dt_dp d v h1) (da_dp ds vs h2)
end
theorem sp_split (x : Str) : Txt.split x (Str.ofString " ") = (spl [32] 0 [] (tl x)).map str := by
  have e := SX.split_S (a := tl x) (b := [32]) (by simp) (by decide)
  rw [show Str.ofString " " = SX.S [32] from ext_tl (by decide +kernel)]
  exact e
theorem wide_len (l : List Nat) : (wide l).length ≤ 3 * l.length := by
  unfold wide
  induction l with
  | nil => exact Nat.zero_le _
  | cons c r ih =>
    rw [List.flatMap_cons, List.length_append, List.length_cons]
    have : (spread c).length ≤ 3 := by
      unfold spread
      split
      · decide
      · split
        · decide
        · exact Nat.le_add_left 1 2
    omega
theorem tk_long {l t : List Nat} (ht : t ∈ tk [] l) : t.length ≤ 2 * l.length := by
  have a := tk_sum l []
  have b : ∀ us : List (List Nat), t ∈ us → t.length ≤ (us.map fun t => t.length + 1).sum := fun us => by
    induction us with
    | nil => intro k; cases k
    | cons u us ih =>
      intro k
      rw [List.map_cons, List.sum_cons]
      rcases List.mem_cons.mp k with k | k
      · rw [k]
        omega
      · have := ih k
        omega
  have c := b _ ht
  rw [List.length_nil, Nat.zero_add] at a
  omega
def spLLine : Sp := fun vs H Q _ => ∃ (z : Str), vs = [.str z] ∧ z.length ≤ 40000 ∧
  (∀ row, readL (tl z) = some row → ∀ H' a xs, Same H H' → H' a = some (.tup xs) → DtAll H' xs row → Q (.ref a) H') ∧ (readL (tl z) = none → ∀ H', Same H H' → Q .non H')
theorem ok_lline (T : Top K mg) : FnOkT P w K mg base 15 T.a_law_line T.d_law_line ["line"] spLLine := by
  have G_law_word := ok_lword (P := P) (w := w) (base := base) T
  have G_law_written := ok_law_written (P := P) (w := w) (base := base) T 13
  refine funT T.F_law_line sc_law_line (fun vs H Q E h => ?_) (fun cdv A outer s H vs Q E hr h => ?_)
  · obtain ⟨z, rfl, _⟩ := h
    rfl
  · obtain ⟨z, rfl, hz, q1, q2⟩ := h
    refine ⟨_, (psst_cons (PST.of (ps_set (i := 1) sc_law_line.nd rfl (.inl rfl) (pe_lst (pa_cons (pe_lst pa_nil) pa_nil))))
    (psst_cons (pst_set (i := 2) sc_law_line.nd rfl (.inl rfl) (pet_split (pet_repl (pet_repl (PET.of (pv 0)) (by decide +kernel)) (by decide +kernel)) pe_str))
    (PSsT.of (pss_cons (ps_for PassesOwn.never rfl (pi_list (pe_lc (own := [("one", 8)]) rfl sc_law_line.nd (pi_list (pv 2)) (blkOk_by (own := [("one", 8)]) (N := ["line", "open_rows", "words", "word", "done", "good", "member", "row", "one"]) (sc := defScope s_law_line) (by decide +kernel)) (fun _ _ _ _ _ => (pg_name (i := 8) sc_law_line.nd rfl (.inl rfl))) (fun _ _ _ _ _ => pts_one (pt_cmpR op_ne (pv 8) pe_str (nomark _))) (fun _ _ _ _ _ => (pv 8)))) (pg_name (i := 3) sc_law_line.nd rfl (.inl rfl))
    (pss_one (ps_if (pt_cmpR op_eq (pv 3) pe_str (nomark _))
    (pss_cons (ps_expr (pe_bm PySem.F.plainAttrs_list PySem.F.slot_list_append PySem.F.type_list_append mt_append (pv 1) (pa_cons (pe_lst pa_nil) pa_nil)))
    (pss_one (ps_if (pt_cmpR op_gt (pe_callB call_len_seq (by rfl) T.m_len (by decide +kernel) (pa_cons (pv 1) pa_nil)) pe_int (nomark _))
    (pss_one (ps_ret pe_non))
    pss_nil)))
    (pss_one (ps_if (pt_cmpR op_eq (pv 3) pe_str (nomark _))
    (pss_cons (ps_if (pt_cmpR op_eq (pe_callB call_len_seq (by rfl) T.m_len (by decide +kernel) (pa_cons (pv 1) pa_nil)) pe_int (nomark _))
    (pss_one (ps_ret pe_non))
    pss_nil)
    (pss_cons (ps_set (i := 4) sc_law_line.nd rfl (.inl rfl) (pe_callTy call_tuple_of (by rfl) T.m_tuple (by decide +kernel) (pa_cons (pe_bm0 PySem.F.plainAttrs_list PySem.F.slot_list_pop PySem.F.type_list_pop mt_pop (pv 1)) pa_nil)))
    (pss_one (ps_expr (pe_bm PySem.F.plainAttrs_list PySem.F.slot_list_append PySem.F.type_list_append mt_append (pe_ix ix_list (pv 1) (pe_un un_neg pe_int) (fun _ _ => rfl)) (pa_cons (pv 4) pa_nil))))))
    (pss_cons (ps_asg (pe_call G_law_word (hr.mono (by omega)) (by rfl) T.m_law_word T.F_law_word.kp T.b_law_word .nil pass0 (pa_cons (pv 3) pa_nil)) (pg_tup rfl (pgs_cons (pg_name (i := 5) sc_law_line.nd rfl (.inl rfl)) (pgs_cons (pg_name (i := 6) sc_law_line.nd rfl (.inl rfl)) pgs_nil))))
    (pss_cons (ps_if (pt_not (pt_val (pv 5)))
    (pss_one (ps_ret pe_non))
    pss_nil)
    (pss_one (ps_expr (pe_bm PySem.F.plainAttrs_list PySem.F.slot_list_append PySem.F.type_list_append mt_append (pe_ix ix_list (pv 1) (pe_un un_neg pe_int) (fun _ _ => rfl)) (pa_cons (pv 6) pa_nil)))))))))))
    (pss_cons (ps_if (PW.pt (pw_or (pt_cmpR op_gt (pe_callB call_len_seq (by rfl) T.m_len (by decide +kernel) (pa_cons (pv 1) pa_nil)) pe_int (nomark _)) (pw_or1 (pt_cmpR (op_eqD hr.units) (pe_ix ix_list (pv 1) pe_int (fun _ _ => rfl)) (pe_lst pa_nil) (nomark _)))))
    (pss_one (ps_ret pe_non))
    pss_nil)
    (pss_cons (ps_set (i := 7) sc_law_line.nd rfl (.inl rfl) (pe_callTy call_tuple_of (by rfl) T.m_tuple (by decide +kernel) (pa_cons (pe_ix ix_list (pv 1) pe_int (fun _ _ => rfl)) pa_nil)))
    (pss_one (ps_ret (pe_ifExp (pt_cmpR op_eq (pe_slice sl_str (pe_call G_law_written (hr.mono (by omega)) (by rfl) T.m_law_written T.F_law_written.kp T.b_law_written .nil pass0 (pa_cons (pv 7) pa_nil)) (po_some pe_int) (po_some (pe_un un_neg pe_int))) (pv 0) (nomark _)) (pv 7) pe_non))))))))), ?_⟩
    rw [← law_read] at q1 q2
    have zl := len_tl z
    have l3 : (Str.ofString " ( ").length = 3 := by decide +kernel
    have l4 : (Str.ofString " ) ").length = 3 := by decide +kernel
    have lsp : ((Str.ofString " ").length == 0) = false := by decide +kernel
    have f1 : z.length + (z.length + 1) * (Str.ofString " ( ").length ≤ 16777216 := by rw [l3]; omega
    have r1 := TK.replace_len z (Str.ofString "(") (Str.ofString " ( ")
    rw [l3] at r1
    have f2 : (Txt.replace z (Str.ofString "(") (Str.ofString " ( ")).length + ((Txt.replace z (Str.ofString "(") (Str.ofString " ( ")).length + 1) * (Str.ofString " ) ").length ≤ 16777216 := by rw [l4]; omega
    have ew := wide_of z
    have wl := wide_len (tl z)
    have f3 : (Txt.replace (Txt.replace z (Str.ofString "(") (Str.ofString " ( ")) (Str.ofString ")") (Str.ofString " ) ")).length + 2 ≤ sizeLine := sz_small (by rw [len_tl, ew]; omega)
    have es := sp_split (Txt.replace (Txt.replace z (Str.ofString "(") (Str.ofString " ( ")) (Str.ofString ")") (Str.ofString " ) "))
    rw [ew] at es
    obtain ⟨c1, c2⟩ := spl1_len (s := 32) (wide (tl z)) []
    have hfil := wide_tk (tl z) []
    walk_at "s"
    rename_i p hp O hO L hL D hD
    rw [es] at hD ⊢
    have hlsz : (spl [32] 0 [] (wide (tl z))).length ≤ 120001 := by omega
    generalize spl [32] 0 [] (wide (tl z)) = ls at hD hfil hlsz
    have pO : p ≠ O := ne_of_none upd_same hO
    have nO : H O = none := by
      rw [upd_ne pO.symm] at hO
      exact hO
    have sm1 : Same H (upd (upd H p (.lst [])) O (.lst [V.ref p])) := (same_new hp).trans (same_new hO)
    have sm2 : Same (upd (upd H p (.lst [])) O (.lst [V.ref p])) (upd (upd (upd H p (.lst [])) O (.lst [V.ref p])) L (.lst ((ls.map str).map V.str))) := same_new hL
    have h3p := sm2 _ _ (hp_new (x := .lst [V.ref p]) (upd_same (H := H) (a := p) (o := .lst [])) hO)
    have h3O := sm2 _ _ (upd_same (H := upd H p (.lst [])) (a := O) (o := .lst [V.ref p]))
    have h3L : upd (upd (upd H p (.lst [])) O (.lst [V.ref p])) L (.lst ((ls.map str).map V.str)) L = some (.lst ((ls.map str).map V.str)) := upd_same
    have sm3 := sm1.trans sm2
    generalize upd (upd (upd H p (.lst [])) O (.lst [V.ref p])) L (.lst ((ls.map str).map V.str)) = H3 at hD h3p h3O h3L sm3
    clear sm1 sm2 hL hO
    have em : tl (Str.ofString "") = [] := by decide +kernel
    refine lc_list (xs := (ls.map str).map V.str) (fun j H2 => Same H3 H2 ∧ H2 D = some (.lst (((ls.take j).filter fun t => decide (t ≠ [])).map fun t => V.str (str t)))) ?_ ?_ ?_ ?_
    · exact ⟨same_new hD, upd_same⟩
    · intro j H2 hj hP
      exact SqL.of (hP.1 _ _ h3L)
    · intro j x H2 hj hP
      obtain ⟨sm, h1⟩ := hP
      obtain ⟨u, rfl, hu⟩ := map_get hj
      rw [List.getElem?_map] at hu
      obtain ⟨t, ht, rfl⟩ : ∃ t, ls[j]? = some t ∧ u = str t := by
        cases k : ls[j]? with
        | none =>
          rw [k] at hu
          cases hu
        | some t =>
          rw [k] at hu
          exact ⟨t, rfl, (Option.some.inj hu).symm⟩
      have hjl := (List.getElem?_eq_some_iff.mp ht).1
      have hfl : ((ls.take j).filter fun t => decide (t ≠ [])).length ≤ 120001 := by
        refine Nat.le_trans (List.length_filter_le _ _) ?_
        rw [List.length_take]
        omega
      walk_at "s"
      · rename_i e
        have ne : t ≠ [] := fun k => e (ext_tl (by rw [em, k]))
        refine ⟨_, h1, sz_less (by rw [List.length_map]; omega), same_mut sm hD, ?_⟩
        rw [upd_same, List.take_add_one, ht, List.filter_append, List.map_append, Option.toList_some, List.filter_cons, if_pos (decide_eq_true ne)]
        rfl
      · rename_i e
        have ne : t = [] := by
          have := congrArg tl e
          rw [em] at this
          exact this
        rw [h1, List.take_add_one, ht, List.filter_append, List.map_append, Option.toList_some, List.filter_cons, if_neg (by simp [ne])]
        simp
    · intro H4 hP
      obtain ⟨sm4, hD4⟩ := hP
      rw [List.length_map, List.length_map, List.take_length, hfil] at hD4
      have h4p := sm4 _ _ h3p
      have h4O := sm4 _ _ h3O
      have nD : H D = none := sm3.free hD
      have nOD : O ≠ D := ne_of_none h3O hD
      have npD : p ≠ D := ne_of_none h3p hD
      have smA := sm3.trans sm4
      have many := tk_many (tl z) []
      rw [List.length_nil, Nat.zero_add] at many
      have good := tk_all (tl z) [] (by simp)
      have long : ∀ t ∈ tk [] (tl z), t.length ≤ 80000 := fun t ht => by
        have := tk_long ht
        omega
      have rlen := fun row (h : ps [[]] (tk [] (tl z)) = some row) => read_len h
      have lz : lawL (tl z) = match ps [[]] (tk [] (tl z)) with
        | some row => if row ≠ [] ∧ joinL [32] (wrAll row) = tl z then some row else none
        | none => none := rfl
      have hfl : ((tk [] (tl z)).map fun t => V.str (str t)).length ≤ 80000 := by
        rw [List.length_map]
        omega
      generalize tk [] (tl z) = ts at hD4 many good long rlen lz hfl
      rw [lz] at q1 q2
      clear lz hfil es ew
      have qn : ps [[]] ts = none → ∀ H', Same H H' → Q .non H' := fun k => q2 (by rw [k])
      walk_at "s"
      refine for_listQ (xs := ts.map fun t => V.str (str t)) Q rfl (fun i σ H2 => ∃ (v3 v4 v5 v6 : Option V) (a : Addr) (as : List Addr) (l : List PyData) (st : List (List PyData)), σ = [some (.str z), some (.ref O), some (.ref L), v3, v4, v5, v6, none, none] ∧ Same H H2 ∧
          H2 O = some (.lst (as.reverse.map V.ref ++ [V.ref a])) ∧ H2 D = some (.lst (ts.map fun t => V.str (str t))) ∧ O ∉ a :: as ∧ D ∉ a :: as ∧ (∀ b ∈ a :: as, H b = none) ∧ Stk H2 (a :: as) (l :: st) ∧ st.length ≤ 11 ∧ (∀ r ∈ l :: st, r.length ≤ i) ∧ ps [[]] ts = ps (l :: st) (ts.drop i)) ?_ ?_ ?_ ?_
      · refine ⟨none, none, none, none, p, [], [], [], rfl, smA, h4O, hD4, ?_, ?_, ?_, ⟨by simp, ⟨[], h4p, da_nil⟩, rfl, trivial⟩, Nat.zero_le _, ?_, rfl⟩
        · intro k
          rw [List.mem_singleton] at k
          exact pO k.symm
        · intro k
          rw [List.mem_singleton] at k
          exact npD k.symm
        · intro b hb
          rw [List.mem_singleton] at hb
          rw [hb]
          exact hp
        · intro r hr
          rw [List.mem_singleton] at hr
          rw [hr]
          exact Nat.le_refl _
      · intro i σ H2 hi hP
        obtain ⟨v3, v4, v5, v6, a, as, l, st, rfl, sm, hO2, hD2, _⟩ := hP
        exact SqL.of hD2
      · intro N X i x σ H2 hi hP hN
        obtain ⟨v3, v4, v5, v6, a, as, l, st, rfl, sm, hO2, hD2, nin, ninD, fresh, stk, hst, short, hps⟩ := hP
        rw [List.getElem?_map] at hi
        obtain ⟨t, ht, rfl⟩ : ∃ t, ts[i]? = some t ∧ x = V.str (str t) := by
          cases k : ts[i]? with
          | none =>
            rw [k] at hi
            cases hi
          | some t =>
            rw [k] at hi
            exact ⟨t, rfl, (Option.some.inj hi).symm⟩
        have hil := (List.getElem?_eq_some_iff.mp ht).1
        have hd : ts.drop i = t :: ts.drop (i + 1) := by
          rw [List.drop_eq_getElem_cons hil]
          congr 1
          exact (List.getElem?_eq_some_iff.mp ht).2
        rw [hd] at hps
        have tm := List.mem_of_getElem? ht
        have tg := good t tm
        have tlen := long t tm
        have tsl : ts.length ≤ 80000 := by
          rw [List.length_map] at hfl
          exact hfl
        clear good long hfl
        have d40 : Str.ofString "(" = str [40] := ext_tl (by decide +kernel)
        have d41 : Str.ofString ")" = str [41] := ext_tl (by decide +kernel)
        have sl := stk.len
        rw [List.length_cons, List.length_cons] at sl
        have rl2 : (as.reverse.map V.ref ++ [V.ref a]).length = st.length + 1 := by
          rw [List.length_append, List.length_map, List.length_reverse, List.length_singleton]
          omega
        obtain ⟨xs, ha, hxs⟩ := stk.2.1
        have lxs : xs.length ≤ 80000 := by
          have := short l List.mem_cons_self
          rw [da_len hxs]
          omega
        walk_at "s"
        · rename_i e1 p2 hp2 e2
          have et : t = [40] := (str_eq rfl).mp (e1.trans d40)
          subst et
          rw [List.length_append, rl2] at e2
          rw [ps_open, if_pos (by rw [List.length_cons]; simp at e2; omega)] at hps
          exact qn hps _ (same_mut (sm.trans (same_new hp2)) nO)
        · rename_i e1 p2 hp2 e2
          have et : t = [40] := (str_eq rfl).mp (e1.trans d40)
          subst et
          rw [List.length_append, rl2] at e2
          rw [ps_open, if_neg (by rw [List.length_cons]; simp at e2; omega)] at hps
          have hst2 : st.length + 1 ≤ 11 := by
            simp at e2
            omega
          have nO2 : p2 ≠ O := fun k => by
            rw [k, hO2] at hp2
            cases hp2
          have fr2 : H p2 = none := sm.free hp2
          have nD2 : p2 ≠ D := (ne_of_none hD2 hp2).symm
          refine hN _ _ ⟨some (.str (str [40])), v4, v5, v6, p2, a :: as, [], l :: st, rfl, same_mut (sm.trans (same_new hp2)) nO, ?_, ?_, ?_, ?_, ?_, ?_, ?_, ?_, ?_⟩
          · rw [upd_same, List.reverse_cons, List.map_append]
            rfl
          · rw [upd_ne nOD.symm, upd_ne nD2.symm]
            exact hD2
          · intro k
            rcases List.mem_cons.mp k with k | k
            · exact nO2 k.symm
            · exact nin k
          · intro k
            rcases List.mem_cons.mp k with k | k
            · exact nD2 k.symm
            · exact ninD k
          · intro b hb
            rcases List.mem_cons.mp hb with hb | hb
            · rw [hb]
              exact fr2
            · exact fresh b hb
          · have sp2 := stk.push hp2
            have hO3 := same_new (o := .lst []) hp2 _ _ hO2
            refine sp2.step (Ts.upd hO3) fun b hb o k => ?_
            rw [upd_ne (fun z => ?_)]
            · exact k
            · rcases List.mem_cons.mp hb with hb | hb
              · exact nO2 (hb ▸ z)
              · exact nin (z ▸ hb)
          · rw [List.length_cons]
            omega
          · intro r hr
            rcases List.mem_cons.mp hr with hr | hr
            · rw [hr]
              exact Nat.zero_le _
            · exact Nat.le_succ_of_le (short r hr)
          · exact hps
        · rename_i e1 e2 e3
          have et : t = [41] := (str_eq rfl).mp (e2.trans d41)
          subst et
          have st0 : st = [] := List.length_eq_zero_iff.mp (by omega)
          subst st0
          rw [ps_close1] at hps
          exact qn hps _ sm
        · rename_i e1 e2 e3
          have et : t = [41] := (str_eq rfl).mp (e2.trans d41)
          subst et
          cases st with
          | nil => exact absurd (by rw [rl2]; rfl) e3
          | cons k st =>
            cases as with
            | nil => simp at sl
            | cons b as =>
              rw [ps_close] at hps
              obtain ⟨s1', s2', s3', s4'⟩ := stk
              obtain ⟨ys, hb, hys⟩ := s4'.2.1
              have ab : b ≠ a := fun k => s1' (by rw [k]; exact List.mem_cons_self)
              have aO : a ≠ O := fun k => nin (by rw [← k]; exact List.mem_cons_self)
              have bO : b ≠ O := fun k => nin (by rw [← k]; exact List.mem_cons_of_mem _ List.mem_cons_self)
              have bD : D ≠ b := fun k => ninD (by rw [k]; exact List.mem_cons_of_mem _ List.mem_cons_self)
              have lys : ys.length ≤ 80000 := by
                have := short k (List.mem_cons_of_mem _ List.mem_cons_self)
                rw [da_len hys]
                omega
              refine ⟨O, _, .ref a, rfl, rfl, hO2, ?_, ?_⟩
              · rw [rl2, List.getElem?_append_right (by rw [List.length_map, List.length_reverse]; omega), List.length_map, List.length_reverse]
                have z0 : (k :: st).length + 1 - 1 - (b :: as).length = 0 := by
                  rw [List.length_cons, List.length_cons] at sl ⊢
                  omega
                rw [z0]
                rfl
              · rw [List.dropLast_concat, List.reverse_cons, List.map_append]
                have h3a : (upd H2 O (.lst (as.reverse.map V.ref ++ [b].map V.ref))) a = some (.lst xs) := by rw [upd_ne aO]; exact ha
                have h3b : (upd H2 O (.lst (as.reverse.map V.ref ++ [b].map V.ref))) b = some (.lst ys) := by rw [upd_ne bO]; exact hb
                have h3O : (upd H2 O (.lst (as.reverse.map V.ref ++ [b].map V.ref))) O = some (.lst (as.reverse.map V.ref ++ [.ref b])) := upd_same
                have h3D : (upd H2 O (.lst (as.reverse.map V.ref ++ [b].map V.ref))) D = some (.lst (ts.map fun t => V.str (str t))) := by rw [upd_ne nOD.symm]; exact hD2
                have sm3 : Same H (upd H2 O (.lst (as.reverse.map V.ref ++ [b].map V.ref))) := same_mut sm nO
                have t3 : Ts H2 (upd H2 O (.lst (as.reverse.map V.ref ++ [b].map V.ref))) := Ts.upd hO2
                have stk3 : Stk (upd H2 O (.lst (as.reverse.map V.ref ++ [b].map V.ref))) (b :: as) (k :: st) := s4'.step t3 fun c hc o e => by
                  rw [upd_ne (fun z => nin (by rw [← z]; exact List.mem_cons_of_mem _ hc))]
                  exact e
                have hxs3 := hxs.ts t3 _ _ s3'
                generalize upd H2 O (.lst (as.reverse.map V.ref ++ [b].map V.ref)) = H3 at h3a h3b h3O h3D sm3 t3 stk3 hxs3
                refine ⟨a, xs, rfl, .inl ⟨SqL.of h3a, fun p hp => ?_⟩⟩
                have s4 : Same H3 (upd H3 p (.tup xs)) := same_new hp
                have h4b := s4 _ _ h3b
                have h4O := s4 _ _ h3O
                have h4D := s4 _ _ h3D
                have h4p : (upd H3 p (.tup xs)) p = some (.tup xs) := upd_same
                have stk4 : Stk (upd H3 p (.tup xs)) (b :: as) (k :: st) := stk3.step (Ts.of s4) fun c _ o e => s4 _ _ e
                have dp : Dt (upd H3 p (.tup xs)) (.ref p) (.tuple l) := dt_tup h4p (hxs3.same s4)
                have sm4 := sm3.trans s4
                generalize upd H3 p (.tup xs) = H4 at s4 h4b h4O h4D h4p stk4 dp sm4
                walk_at "s"
                have h5 := stk4.snoc h4b dp (by unfold fz; exact s3')
                refine hN _ _ ⟨some (.str (str [41])), some (.ref p), v5, v6, b, as, k ++ [.tuple l], st, rfl, same_mut sm4 (fresh b (List.mem_cons_of_mem _ List.mem_cons_self)), ?_, ?_, ?_, ?_, ?_, h5, ?_, ?_, hps⟩
                · rw [upd_ne (Ne.symm bO)]
                  exact h4O
                · rw [upd_ne bD]
                  exact h4D
                · exact fun z => nin (List.mem_cons_of_mem _ z)
                · exact fun z => ninD (List.mem_cons_of_mem _ z)
                · exact fun c hc => fresh c (List.mem_cons_of_mem _ hc)
                · rw [List.length_cons] at hst
                  omega
                · intro r hr
                  rcases List.mem_cons.mp hr with hr | hr
                  · rw [hr, List.length_append, List.length_singleton]
                    have := short k (List.mem_cons_of_mem _ List.mem_cons_self)
                    omega
                  · exact Nat.le_succ_of_le (short r (List.mem_cons_of_mem _ (List.mem_cons_of_mem _ hr)))
        · rename_i e1 e2
          have n40 : t ≠ [40] := fun k => e1 (by rw [k, d40])
          have n41 : t ≠ [41] := fun k => e2 (by rw [k, d41])
          have wt : Word t := (tg.resolve_left n40).resolve_left n41
          refine ⟨wt.1, by rw [str_len]; omega, fun ar v b H3 sm3 har w1 w2 => ?_⟩
          have tl' : (tl (str t)) = t := rfl
          rw [tl'] at w1 w2
          have ha3 := sm3 _ _ ha
          have hO3 := sm3 _ _ hO2
          have hD3 := sm3 _ _ hD2
          refine ⟨ar, _, rfl, SqT.of har, rfl, ?_⟩
          cases hpw : pw t with
          | none =>
            have eb := w2 hpw
            subst eb
            rw [ps_bad n40 n41 hpw] at hps
            walk_at "s"
            · exact qn hps _ (sm.trans sm3)
            · rename_i e3
              exact absurd rfl e3
          | some d =>
            obtain ⟨eb, hx⟩ := w1 d hpw
            subst eb
            rw [ps_word n40 n41 hpw] at hps
            walk_at "s"
            · rename_i e3
              cases e3
            have stk3 : Stk H3 (a :: as) (l :: st) := stk.step (Ts.of sm3) fun c _ o e => sm3 _ _ e
            have aO : O ≠ a := fun k => nin (by rw [k]; exact List.mem_cons_self)
            have aD : D ≠ a := fun k => ninD (by rw [k]; exact List.mem_cons_self)
            refine hN _ _ ⟨some (.str (str t)), v4, some (.bl true), some v, a, as, l ++ [d], st, rfl, same_mut (sm.trans sm3) (fresh a List.mem_cons_self), ?_, ?_, nin, ninD, fresh, stk3.snoc ha3 hx (pw_ok hpw).1, hst, ?_, hps⟩
            · rw [upd_ne aO]
              exact hO3
            · rw [upd_ne aD]
              exact hD3
            · intro r hr
              rcases List.mem_cons.mp hr with hr | hr
              · rw [hr, List.length_append, List.length_singleton]
                have := short l List.mem_cons_self
                omega
              · exact Nat.le_succ_of_le (short r (List.mem_cons_of_mem _ hr))
      · intro σ H2 hP
        obtain ⟨v3, v4, v5, v6, a, as, l, st, rfl, sm, hO2, hD2, nin, ninD, fresh, stk, hst, short, hps⟩ := hP
        rw [List.length_map, List.drop_length] at hps
        have sl := stk.len
        rw [List.length_cons, List.length_cons] at sl
        have rl2 : (as.reverse.map V.ref ++ [V.ref a]).length = st.length + 1 := by
          rw [List.length_append, List.length_map, List.length_reverse, List.length_singleton]
          omega
        obtain ⟨xs, ha, hxs⟩ := stk.2.1
        walk_at "s"
        · rename_i e
          have ne1 : ps [[]] ts = none := by
            rw [hps]
            cases st with
            | nil =>
              rw [rl2] at e
              simp at e
            | cons _ _ => rfl
          exact qn ne1 _ sm
        · rename_i e
          have st0 : st = [] := by
            cases st with
            | nil => rfl
            | cons x y =>
              rw [rl2, List.length_cons] at e
              omega
          subst st0
          have as0 : as = [] := List.length_eq_zero_iff.mp (by rw [List.length_nil] at sl; omega)
          subst as0
          have hps : ps [[]] ts = some l := hps
          rw [hps] at q1 q2
          have ok : OkRow l 0 := ps_ok ts [[]] l ⟨⟨rfl, by unfold WmAll; trivial, by decide⟩, trivial⟩ (by simp) hps
          have lay := ps_lay ts [[]] l (fun r hr => by
            rw [List.mem_singleton] at hr
            rw [hr]
            unfold PyData.canLayAll0
            rfl) hps
          have shp := row_shaped ok lay
          have lb := rlen l hps
          refine ⟨O, _, 0, _, rfl, rfl, SqL.of hO2, atI_nat (j := 0) rfl, ?_⟩
          walk_at "s"
          rename_i E0 hE0
          refine ⟨.list l, .list [], .lst (SqL.of (same_new hE0 _ _ ha)) (da_dp _ _ (hxs.same (same_new hE0))), .lst (SqL.of upd_same) .nil, shp, by decide, ?_⟩
          rw [row_eqv]
          have sm5 : Same H2 (upd H2 E0 (.lst [])) := same_new hE0
          have hO5 := sm5 _ _ hO2
          have ha5 := sm5 _ _ ha
          have hxs5 := hxs.same sm5
          generalize upd H2 E0 (.lst []) = H5 at sm5 hO5 ha5 hxs5
          walk_at "s"
          · rename_i e2
            exact q2 (if_neg fun k => k.1 e2) _ (sm.trans sm5)
          · rename_i e2
            refine ⟨a, xs, rfl, .inl ⟨SqL.of ha5, fun p hp => ?_⟩⟩
            have sm6 : Same H5 (upd H5 p (.tup xs)) := same_new hp
            have h6p : upd H5 p (.tup xs) p = some (.tup xs) := upd_same
            have hxs6 := hxs5.same sm6
            have smB := (sm.trans sm5).trans sm6
            generalize upd H5 p (.tup xs) = H6 at sm6 h6p hxs6 smB
            walk_at "s"
            have wl2 : (wr (.tuple l)).length ≤ 100000 := by
              rw [wr_row, List.length_cons, List.length_append, List.length_singleton]
              omega
            refine ⟨.ref p, .tuple l, rfl, dt_tup h6p hxs6, by unfold Wm; exact ok.2.1, ?_, wl2, fun H7 sm7 => ?_⟩
            · have := ok.2.2
              show depAll l + 1 < 13
              omega
            have wl3 : (str (wr (.tuple l))).length ≤ sizeLine := sz_small (by rw [str_len]; omega)
            have h7p := sm7 _ _ h6p
            have hxs7 := hxs6.same sm7
            walk_at "s"
            · rename_i e3
              rw [cut_row] at e3
              exact q1 l (if_pos ⟨e2, by have := congrArg tl e3; exact this⟩) _ _ _ (smB.trans sm7) h7p hxs7
            · rename_i e3
              rw [cut_row] at e3
              exact q2 (if_neg fun k => e3 (ext_tl k.2)) _ (smB.trans sm7)
end
end K66W
set_option Elab.async false
set_option linter.all false
set_option maxRecDepth 100000
set_option maxHeartbeats 4000000
namespace K66W
open PySem PySem.Spec PyProof.Rows L2 TL LW PT
local macro_rules | `(tactic| walk_at "ne") => `(tactic| first
  | (with_reducible assumption)
  | exact Ne.symm (by assumption)
  | (with_reducible exact ne_of_none (by assumption) (by assumption))
  | (with_reducible exact (ne_of_none (by assumption) (by assumption)).symm)
  | (apply ne_of_none; (case h' => assumption); (case h => walk_at "hp"))
  | (apply Ne.symm; apply ne_of_none; (case h' => assumption); (case h => walk_at "hp")))
local macro_rules | `(tactic| walk_at "hp") => `(tactic| first
  | (with_reducible assumption)
  | exact upd_same
  | (with_reducible exact hp_new (by assumption) (by assumption))
  | (apply hp_new; (case n => assumption); (case h => walk_at "hp"))
  | (refine (upd_ne ?ne).trans ?hp; (case ne => walk_at "ne"); (case hp => walk_at "hp")))
local macro_rules | `(tactic| walk_at "sq") => `(tactic| first
  | ((with_reducible show SqL _ _ _ _); assumption)
  | ((with_reducible show SqT _ _ _ _); assumption)
  | exact SqL.of (by assumption)
  | exact SqL.of upd_same
  | exact SqT.of (by assumption)
  | exact SqT.of upd_same
  | (apply SqL.of; walk_at "hp")
  | (apply SqT.of; walk_at "hp"))
local macro_rules | `(tactic| walk_at "len") => `(tactic| first
  | (with_reducible assumption)
  | exact sz_small (by omega)
  | exact sz_less (by omega)
  | decide
  | (refine sz_small ?_; simp only [List.length_append, List.length_cons, List.length_nil, List.length_map, str_len]; omega)
  | (refine sz_less ?_; simp only [List.length_append, List.length_cons, List.length_nil, List.length_map, str_len]; omega))
local macro_rules | `(tactic| walk_at "cond") => `(tactic| first
  | omega
  | (split <;> omega)
  | (with_reducible assumption)
  | exact .inl ⟨by omega, by omega⟩
  | exact .inr ⟨by omega, by omega⟩
  | exact ⟨by omega, by omega⟩
  | (show (0 : Int) < _; omega)
  | (show (0 : Int) < _; decide +kernel)
  | exact ⟨by omega, by omega, by decide⟩
  | walk_at "len"
  | rfl
  | (show CMulW _ _; unfold CMulW; decide +kernel)
  | exact ⟨_, rfl⟩
  | decide +kernel
  | exact ⟨_, by walk_at "sq"⟩
  | exact .inl ⟨rfl, _, by walk_at "sq"⟩)
local macro_rules | `(tactic| walk_at "at") => `(tactic| first
  | (with_reducible assumption)
  | exact atI_nat (by assumption)
  | exact atI_last _ _
  | exact atI_nat (j := 0) rfl
  | exact atI_nat (j := 1) rfl
  | exact atI_nat (j := 2) rfl
  | exact atI_nat (j := 3) rfl
  | exact atI_nat (j := 4) rfl)
local macro_rules | `(tactic| walk_at "ix") => `(tactic| first
  | (with_reducible assumption)
  | (with_reducible exact ixN_0 (by simp; done))
  | (with_reducible exact ixN_1 (by simp; done))
  | (with_reducible exact ixN_2 (by simp; done))
  | (with_reducible exact Evl.ixN_nat (by assumption))
  | (with_reducible exact Evl.ixN_nat (by omega)))
local macro_rules | `(tactic| walk_at "v") => `(tactic| first
  | exact val_var rfl
  | (with_reducible exact val_c)
  | (with_reducible apply val_orV; (case ha => walk_at "v"); (case hb => walk_at "v"))
  | (with_reducible apply val_andV; (case ha => walk_at "v"); (case hb => walk_at "v"))
  | (with_reducible apply val_notV; walk_at "v")
  | (with_reducible apply val_ifS; (case h => walk_at "w"); (case ha => walk_at "v"); (case hb => walk_at "v"))
  | (with_reducible apply val_ifI; (case h => walk_at "w"); (case ha => walk_at "v"); (case hb => walk_at "v"))
  | (with_reducible apply val_ifB; (case h => walk_at "w"); (case ha => walk_at "v"); (case hb => walk_at "v"))
  | (with_reducible apply val_eqS; (case ha => walk_at "v"); (case hb => walk_at "v"))
  | (with_reducible apply val_eqI; (case ha => walk_at "v"); (case hb => walk_at "v"))
  | (with_reducible apply val_neS; (case ha => walk_at "v"); (case hb => walk_at "v"))
  | (with_reducible apply val_neI; (case ha => walk_at "v"); (case hb => walk_at "v"))
  | (with_reducible apply val_op; (case ha => walk_at "v"); (case hb => walk_at "v"); (case hr => exact fun Q q => ⟨_, _, rfl, rfl, q⟩)))
local macro_rules | `(tactic| walk_at "w") => `(tactic| first
  | (with_reducible apply ans_or2; (case h1 => walk_at "w"); (case h2 => walk_at "w"))
  | (with_reducible apply ans_and2; (case h1 => walk_at "w"); (case h2 => walk_at "w"))
  | (with_reducible apply ans_not; walk_at "w")
  | (with_reducible apply ans_test; walk_at "v")
  | (with_reducible apply ans_val; walk_at "v"))
local macro_rules | `(tactic| walk_at "s2") => `(tactic| first
  | refine ⟨_, rfl, ?_⟩
  | refine ⟨_, _, rfl, rfl, ?_⟩
  | (refine And.intro ?cc ?_; (case cc => walk_at "cond"))
  | refine ⟨_, _, _, _, rfl, rfl, by walk_at "sq", by walk_at "at", ?_⟩
  | refine ⟨_, _, _, _, rfl, rfl, by walk_at "hp", by walk_at "ix", ?_⟩
  | refine ⟨_, _, _, _, rfl, rfl, by walk_at "hp", by walk_at "hp", by walk_at "len", ?_⟩
  | refine ⟨_, _, _, rfl, rfl, by walk_at "len", by walk_at "at", ?_⟩
  | refine ⟨_, _, _, rfl, rfl, by walk_at "hp", by walk_at "len", ?_⟩
  | refine ⟨_, _, _, rfl, rfl, by walk_at "hp", by walk_at "at", ?_⟩
  | refine ⟨_, _, rfl, rfl, by walk_at "sq", ?_⟩
  | refine ⟨_, _, rfl, rfl, by walk_at "len", ?_⟩
  | refine ⟨_, _, rfl, by walk_at "sq", ?_⟩
  | refine ⟨_, _, rfl, .inl (by walk_at "sq"), ?_⟩
  | refine ⟨_, _, rfl, .inr (by walk_at "sq"), ?_⟩
  | refine ⟨_, _, rfl, by walk_at "sq", rfl, ?_⟩
  | refine ⟨_, fun _ _ h => h, ?_⟩
  | refine .inl ⟨_, rfl, ?_⟩
  | refine ⟨_, _, .type "int", .type _, true, rfl, ClsV.ty _, .base (.int _), kit_ty (by decide +kernel), ?_⟩
  | refine ⟨_, _, .type "int", .type _, false, rfl, ClsV.ty _, .base (.int _), kit_ty (by decide +kernel), ?_⟩
  | refine ⟨_, _, .type "bool", .type _, true, rfl, ClsV.ty _, .base (.bl _), kit_ty (by decide +kernel), ?_⟩
  | refine ⟨_, _, .type "bool", .type _, false, rfl, ClsV.ty _, .base (.bl _), kit_ty (by decide +kernel), ?_⟩
  | refine ⟨_, _, .type "str", .type _, true, rfl, ClsV.ty _, .base (.str _), kit_ty (by decide +kernel), ?_⟩
  | refine ⟨_, _, .type "str", .type _, false, rfl, ClsV.ty _, .base (.str _), kit_ty (by decide +kernel), ?_⟩
  | refine ⟨_, _, .type "NoneType", .type _, true, rfl, ClsV.ty _, .base (.non), kit_ty (by decide +kernel), ?_⟩
  | refine ⟨_, _, .type "NoneType", .type _, false, rfl, ClsV.ty _, .base (.non), kit_ty (by decide +kernel), ?_⟩
  | refine ⟨_, _, .type "list", .type _, true, rfl, ClsV.ty _, .base (.lst (by walk_at "hp")), kit_ty (by decide +kernel), ?_⟩
  | refine ⟨_, _, .type "list", .type _, false, rfl, ClsV.ty _, .base (.lst (by walk_at "hp")), kit_ty (by decide +kernel), ?_⟩
  | refine ⟨_, _, .type "tuple", .type _, true, rfl, ClsV.ty _, .base (.tup (by walk_at "hp")), kit_ty (by decide +kernel), ?_⟩
  | refine ⟨_, _, .type "tuple", .type _, false, rfl, ClsV.ty _, .base (.tup (by walk_at "hp")), kit_ty (by decide +kernel), ?_⟩
  | fail)
local macro_rules | `(tactic| walk_at "s1") => `(tactic| first
  | (with_reducible refine go_gcons ?_)
  | (with_reducible refine go_gnil ?_)
  | (with_reducible refine go_seqM ?_)
  | (with_reducible refine go_nextM ?_)
  | (with_reducible refine go_contM ?_)
  | (with_reducible refine go_brkM ?_)
  | (with_reducible refine go_retM ?_)
  | (with_reducible refine go_asgM ?_)
  | (with_reducible refine go_test ?_)
  | (with_reducible refine go_rI0 ?_)
  | (with_reducible refine go_op ?_)
  | (with_reducible refine go_var rfl ?_)
  | ((with_reducible show tFor (iRng1 _) _ _ _ _ _); refine (show iRng1 _ _ _ _ from ?_))
  | (with_reducible refine go_rng1 ?_)
  | (with_reducible refine go_c ?_)
  | (with_reducible apply go_pick; (case hs => walk_at "hp"); (case h0 => walk_at "cond"); (case h1 => walk_at "cond"); (case' q => intro k a b c h0 h1))
  | (with_reducible refine go_nil ?_)
  | (with_reducible refine go_cons ?_)
  | (with_reducible refine go_call ?_)
  | (with_reducible refine go_cb ?_)
  | (with_reducible refine go_next ?_)
  | (with_reducible refine go_cont ?_)
  | (with_reducible refine go_ret ?_)
  | (with_reducible refine go_name ?_)
  | (with_reducible refine go_seq ?_)
  | (with_reducible refine go_asg ?_)
  | (with_reducible apply go_or; (case h => walk_at "v"))
  | (with_reducible apply go_and; (case h => walk_at "v"))
  | (with_reducible apply go_andL; (case h => walk_at "v"); (case' h1 => intro e); (case' h2 => intro e))
  | (with_reducible apply go_orL; (case h => walk_at "v"); (case' h1 => intro e); (case' h2 => intro e))
  | (with_reducible apply go_ifE; (case h => walk_at "v"))
  | (with_reducible apply go_ifOr; (case h => walk_at "w"); (case' h1 => intro e); (case' h2 => intro e))
  | (with_reducible apply go_ifAnd; (case h => walk_at "w"); (case' h1 => intro e); (case' h2 => intro e))
  | (with_reducible refine go_min ?_)
  | (with_reducible refine iteT ?_)
  | (with_reducible refine iteF ?_)
  | (with_reducible refine iteD (fun _ => ?_) (fun e => absurd rfl e))
  | (with_reducible refine iteS (fun e => ?_) (fun e => ?_))
  | (with_reducible refine iteI (fun e => ?_) (fun e => ?_))
  | (with_reducible refine iteSn (fun e => ?_) (fun e => ?_))
  | (with_reducible refine iteIn (fun e => ?_) (fun e => ?_))
  | (with_reducible refine iteD (fun e => ?_) (fun e => ?_))
  | (with_reducible refine iteDn (fun e => ?_) (fun e => ?_))
  | (with_reducible refine ite2 (fun e => ?_) (fun e => ?_))
  | (refine fun (p : Addr) (hp : _ = none) => ?_)
  | ((conv => whnf); walk_at "s2")
  | fail)
local macro_rules | `(tactic| walk_at "s") => `(tactic| repeat' (first
  | (with_reducible refine go_gcons ?_)
  | (with_reducible refine go_gnil ?_)
  | (with_reducible refine go_seqM ?_)
  | (with_reducible refine go_nextM ?_)
  | (with_reducible refine go_contM ?_)
  | (with_reducible refine go_brkM ?_)
  | (with_reducible refine go_retM ?_)
  | (with_reducible refine go_asgM ?_)
  | (with_reducible refine go_test ?_)
  | (with_reducible refine go_rI0 ?_)
  | (with_reducible refine go_op ?_)
  | (with_reducible refine go_var rfl ?_)
  | ((with_reducible show tFor (iRng1 _) _ _ _ _ _); refine (show iRng1 _ _ _ _ from ?_))
  | (with_reducible refine go_rng1 ?_)
  | (with_reducible refine go_c ?_)
  | (with_reducible apply go_pick; (case hs => walk_at "hp"); (case h0 => walk_at "cond"); (case h1 => walk_at "cond"); (case' q => intro k a b c h0 h1))
  | (with_reducible refine go_nil ?_)
  | (with_reducible refine go_cons ?_)
  | (with_reducible refine go_call ?_)
  | (with_reducible refine go_cb ?_)
  | (with_reducible refine go_next ?_)
  | (with_reducible refine go_cont ?_)
  | (with_reducible refine go_ret ?_)
  | (with_reducible refine go_name ?_)
  | (with_reducible refine go_seq ?_)
  | (with_reducible refine go_asg ?_)
  | (with_reducible apply go_or; (case h => walk_at "v"))
  | (with_reducible apply go_and; (case h => walk_at "v"))
  | (with_reducible apply go_andL; (case h => walk_at "v"); (case' h1 => intro e); (case' h2 => intro e))
  | (with_reducible apply go_orL; (case h => walk_at "v"); (case' h1 => intro e); (case' h2 => intro e))
  | (with_reducible apply go_ifE; (case h => walk_at "v"))
  | (with_reducible apply go_ifOr; (case h => walk_at "w"); (case' h1 => intro e); (case' h2 => intro e))
  | (with_reducible apply go_ifAnd; (case h => walk_at "w"); (case' h1 => intro e); (case' h2 => intro e))
  | (with_reducible refine go_min ?_)
  | (with_reducible refine iteT ?_)
  | (with_reducible refine iteF ?_)
  | (with_reducible refine iteD (fun _ => ?_) (fun e => absurd rfl e))
  | (with_reducible refine iteS (fun e => ?_) (fun e => ?_))
  | (with_reducible refine iteI (fun e => ?_) (fun e => ?_))
  | (with_reducible refine iteSn (fun e => ?_) (fun e => ?_))
  | (with_reducible refine iteIn (fun e => ?_) (fun e => ?_))
  | (with_reducible refine iteD (fun e => ?_) (fun e => ?_))
  | (with_reducible refine iteDn (fun e => ?_) (fun e => ?_))
  | (with_reducible refine ite2 (fun e => ?_) (fun e => ?_))
  | (refine fun (p : Addr) (hp : _ = none) => ?_)
  | ((conv => whnf); walk_at "s2")
  | fail))

section
variable {P : Program} {w : World} {K : PySem.W.Frag} {mg : Str → Option Value} {base : Heap}
/-! ### a text, the law's way -/
def RL (H : Hp) (v : V) (l : List Nat) : Prop := (∀ row, readL l = some row → ∃ a xs, v = .ref a ∧ H a = some (.tup xs) ∧ DtAll H xs row) ∧ (readL l = none → v = .non)
theorem RL.ts {H H' : Hp} (e : Ts H H') {v : V} {l : List Nat} (h : RL H v l) : RL H' v l := ⟨fun row hr => by
  obtain ⟨a, xs, e1, e2, e3⟩ := h.1 row hr
  exact ⟨a, xs, e1, e _ _ e2, e3.ts e _ _ (readL_ok hr).1⟩, h.2⟩
theorem rl_all {H : Hp} : ∀ {ls : List (List Nat)} {ys : List V} {rows : List (List PyData)}, ys.length = ls.length → (∀ (i : Nat) (v : V) (l : List Nat), ys[i]? = some v → ls[i]? = some l → RL H v l) → rows.map some = ls.map readL → DtAll H ys (rows.map .tuple)
  | [], ys, rows, hl, h, hr => by
    have e1 : ys = [] := List.eq_nil_of_length_eq_zero hl
    have e2 : rows = [] := by simpa using hr
    rw [e1, e2]
    exact da_nil
  | l :: ls, ys, rows, hl, h, hr => by
    cases ys with
    | nil => cases hl
    | cons y ys =>
      cases rows with
      | nil => cases hr
      | cons row rows =>
        rw [List.map_cons, List.map_cons] at hr
        have h1 : readL l = some row := (List.cons.inj hr).1.symm
        obtain ⟨a, xs, rfl, ha, hx⟩ := (h 0 y l rfl rfl).1 row h1
        exact da_cons (dt_tup ha hx) (rl_all (by simpa using hl) (fun i v l e1 e2 => h (i + 1) v l (by simpa using e1) (by simpa using e2)) (List.cons.inj hr).2)
def spTold : Sp := fun vs H Q _ => ∃ (x : Str), vs = [.str x] ∧ x.length ≤ 40000 ∧ ∀ v H', Same H H' → Dt H' v (toldD (told (tl x))) → Q v H'
theorem ok_read (T : Top K mg) : FnOk P w K mg base CX0 16 T.a_law_read T.d_law_read ["text"] spTold := by
  have G_law_line := ok_lline (P := P) (w := w) (base := base) T
  refine T.F_law_read.ok sc_law_read (fun vs H Q E h => ?_) (fun cdv A outer s H vs Q E hr h => ?_)
  · obtain ⟨x, rfl, _⟩ := h
    rfl
  · obtain ⟨x, rfl, hx, q⟩ := h
    refine ⟨_, (pss_cons (ps_if (pt_cmpR op_eq (pv 0) pe_str (nomark _))
    (pss_one (ps_ret (pe_tup (pa_cons pe_str (pa_cons (pe_tup pa_nil) pa_nil)))))
    pss_nil)
    (pss_cons (ps_setLcT (i := 1) (own := [("line", 3)]) rfl sc_law_read.nd rfl rfl (sw_true rfl rfl rfl (by decide +kernel)) (pip_list (pep_split (pv 0))) (blkOk_by (own := [("line", 3)]) (N := ["text", "rows", "at", "line"]) (sc := defScope s_law_read) (by decide +kernel)) (fun _ _ _ _ _ => (pg_name (i := 3) sc_law_read.nd rfl (.inl rfl))) (fun _ _ _ _ _ => pts_nil) (fun _ _ _ _ _ => (pet_call G_law_line (hr.mono (by omega)) (by rfl) T.m_law_line T.F_law_line.kp T.b_law_line .nil (pa_cons (pv 3) pa_nil))))
    (pss_cons (ps_for PassesOwn.never rfl (pi_range1 rfl T.m_range (pa_cons (pe_callB call_len_seq (by rfl) T.m_len (by decide +kernel) (pa_cons (pv 1) pa_nil)) pa_nil)) (pg_name (i := 2) sc_law_read.nd rfl (.inl rfl))
    (pss_one (ps_if (pt_cmpR op_isN (pe_ix ix_list (pv 1) (pv 2) (fun _ _ => rfl)) pe_non (nomark _))
    (pss_one (ps_ret (pe_tup (pa_cons pe_str (pa_cons (pe_op op_add (pv 2) pe_int) pa_nil)))))
    pss_nil)))
    (pss_one (ps_ret (pe_tup (pa_cons pe_str (pa_cons (pe_callTy call_tuple_of (by rfl) T.m_tuple (by decide +kernel) (pa_cons (pv 1) pa_nil)) pa_nil)))))))), ?_⟩
    have em : tl (Str.ofString "") = [] := by decide +kernel
    have nl0 : ((Str.ofString "\n").length == 0) = false := by decide +kernel
    have fx2 : x.length + 2 ≤ sizeLine := sz_small (by omega)
    have sp0 := nl_split x
    obtain ⟨c1, c2⟩ := spl1_len (s := 10) (tl x) []
    have xl := len_tl x
    walk_at "s"
    · rename_i e p1 hp1 p2 hp2
      have et : told (tl x) = .inr [] := if_pos (by rw [e, em])
      refine q _ _ ((same_new hp1).trans (same_new hp2)) ?_
      rw [et]
      exact dt_tup upd_same (da_cons (dt_str _) (da_cons (dt_tup (hp_new upd_same hp2) da_nil) da_nil))
    · rename_i e L hL D hD
      have ne : tl x ≠ [] := fun k => e (ext_tl (by rw [k, em]))
      have et : told (tl x) = rd (spl [10] 0 [] (tl x)) 1 := if_neg ne
      rw [et] at q
      rw [sp0] at hD ⊢
      generalize spl [10] 0 [] (tl x) = ls at q c1 c2 hD
      have hl0 : (upd H L (.lst ((ls.map str).map V.str))) L = some (.lst ((ls.map str).map V.str)) := upd_same
      have smL : Same H (upd H L (.lst ((ls.map str).map V.str))) := same_new hL
      generalize upd H L (.lst ((ls.map str).map V.str)) = HL at hl0 smL hD
      refine lc_list (xs := (ls.map str).map V.str) (fun j H2 => Same HL H2 ∧ ∃ ys : List V, H2 D = some (.lst ys) ∧ ys.length = j ∧ ∀ (i : Nat) (v : V) (l : List Nat), ys[i]? = some v → ls[i]? = some l → RL H2 v l) ?_ ?_ ?_ ?_
      · exact ⟨same_new hD, [], upd_same, rfl, fun i v l h => by simp at h⟩
      · intro j H2 hj hP
        exact SqL.of (hP.1 _ _ hl0)
      · intro j u H2 hj hP
        obtain ⟨sm, ys, hD2, hyl, hys⟩ := hP
        obtain ⟨u, rfl, hu⟩ := map_get hj
        rw [List.getElem?_map] at hu
        obtain ⟨l, hlj, rfl⟩ : ∃ l, ls[j]? = some l ∧ u = str l := by
          cases k : ls[j]? with
          | none =>
            rw [k] at hu
            cases hu
          | some l =>
            rw [k] at hu
            exact ⟨l, rfl, (Option.some.inj hu).symm⟩
        have hjl := (List.getElem?_eq_some_iff.mp hlj).1
        have ll := c2 l (List.mem_of_getElem? hlj)
        rw [List.length_nil, Nat.zero_add] at ll
        have put : ∀ (v : V) (H3 : Hp), Same H2 H3 → RL H3 v l → ∃ acc, H3 D = some (.lst acc) ∧ acc.length < sizeLine ∧ Same HL (upd H3 D (.lst (acc ++ [v]))) ∧ ∃ ys : List V, (upd H3 D (.lst (acc ++ [v]))) D = some (.lst ys) ∧ ys.length = j + 1 ∧ ∀ (i : Nat) (v2 : V) (l : List Nat), ys[i]? = some v2 → ls[i]? = some l → RL (upd H3 D (.lst (acc ++ [v]))) v2 l := fun v H3 sm3 hv => by
          have hD3 := sm3 _ _ hD2
          have t3 : Ts H3 (upd H3 D (.lst (ys ++ [v]))) := Ts.upd hD3
          refine ⟨ys, hD3, sz_less (by omega), same_mut (sm.trans sm3) hD, ys ++ [v], upd_same, by rw [List.length_append, hyl]; rfl, fun i v2 l2 h1 h2 => ?_⟩
          by_cases hi : i < ys.length
          · rw [List.getElem?_append_left hi] at h1
            exact (hys i v2 l2 h1 h2).ts ((Ts.of sm3).trans t3)
          · have hij : i = j := by
              have := (List.getElem?_eq_some_iff.mp h1).1
              rw [List.length_append, List.length_singleton] at this
              omega
            subst hij
            rw [List.getElem?_append_right (by omega), hyl, Nat.sub_self] at h1
            rw [hlj] at h2
            cases h2
            have h1 : v = v2 := Option.some.inj h1
            subst h1
            exact hv.ts t3
        walk_at "s"
        refine ⟨by rw [str_len]; omega, fun row hr H3 a xs sm3 ha hx => ?_, fun hn H3 sm3 => ?_⟩
        · have hr : readL l = some row := hr
          refine put _ H3 sm3 ⟨fun row2 hr2 => ?_, fun k => ?_⟩
          · rw [hr] at hr2
            cases hr2
            exact ⟨a, xs, rfl, ha, hx⟩
          · rw [hr] at k
            cases k
        · have hn : readL l = none := hn
          refine put _ H3 sm3 ⟨fun row2 hr2 => ?_, fun _ => rfl⟩
          rw [hn] at hr2
          cases hr2
      · intro H2 hP
        obtain ⟨sm, ys, hD2, hyl, hys⟩ := hP
        rw [List.length_map, List.length_map] at hyl
        have lys : ys.length ≤ 50000 := by omega
        have smA := smL.trans sm
        walk_at "s"
        refine for_rangeQ (lo := 0) (n := ((ys.length : Int)).toNat) Q rfl (fun i σ H3 => ∃ (v2 : Option V) (rows : List (List PyData)), σ = [some (.str x), some (.ref D), v2, none] ∧ H3 = H2 ∧ rows.map some = (ls.take i).map readL) ?_ ?_ ?_
        · exact ⟨_, [], rfl, rfl, rfl⟩
        · intro N X i σ H3 hi hP hN
          obtain ⟨v2, rows, rfl, rfl, hrows⟩ := hP
          rw [Int.toNat_natCast] at hi
          have hli : ls[i]? = some ls[i] := List.getElem?_eq_getElem (by omega)
          have hyi : ys[i]? = some ys[i] := List.getElem?_eq_getElem hi
          have rl := hys i _ _ hyi hli
          have hat : atI ys (i : Int) = some ys[i] := atI_nat hyi
          generalize ls[i] = l at hli rl
          generalize ys[i] = v at rl hat
          simp only [Int.zero_add]
          cases hrd : readL l with
          | none =>
            have ev := rl.2 hrd
            subst ev
            have eb := rd_bad (n := 1) hrows hli hrd
            rw [eb] at q
            walk_at "s"
            · rename_i p hp
              refine q _ _ (smA.trans (same_new hp)) ?_
              refine dt_tup upd_same (da_cons (dt_str _) (da_cons ?_ da_nil))
              rw [show (((1 + i : Nat)) : Int) = (i : Int) + 1 from by omega]
              exact dt_int _
          | some row =>
            obtain ⟨a, xs, ev, ha, hx⟩ := rl.1 row hrd
            subst ev
            walk_at "s"
            · rename_i e _ _
              cases e
            refine hN _ _ ⟨_, rows ++ [row], rfl, rfl, ?_⟩
            rw [List.take_add_one, hli, List.map_append, List.map_append, hrows]
            show _ ++ [some row] = _ ++ [readL l]
            rw [hrd]
        · intro σ H3 hP
          obtain ⟨v2, rows, rfl, rfl, hrows⟩ := hP
          rw [Int.toNat_natCast, hyl, List.take_length] at hrows
          have eg := rd_good (n := 1) hrows
          rw [eg] at q
          have dal := rl_all hyl hys hrows
          walk_at "s"
          refine ⟨D, ys, rfl, .inl ⟨SqL.of hD2, fun p hp => ?_⟩⟩
          walk_at "s"
          rename_i p2 hp2
          refine q _ _ ((smA.trans (same_new hp)).trans (same_new hp2)) ?_
          exact dt_tup upd_same (da_cons (dt_str _) (da_cons (Dt.same (same_new hp2) _ _ (dt_tup upd_same (dal.same (same_new hp)))) da_nil))
theorem ok_told (T : Top K mg) : FnOk P w K mg base CX0 16 T.a_law_told T.d_law_told ["text"] spTold := by
  have G_paper_from := ok_paper_from (P := P) (w := w) (base := base) T
  refine T.F_law_told.ok sc_law_told (fun vs H Q E h => ?_) (fun cdv A outer s H vs Q E hr h => ?_)
  · obtain ⟨x, rfl, _⟩ := h
    rfl
  · obtain ⟨x, rfl, hx, q⟩ := h
    refine ⟨_, (pss_cons (ps_try_as (i := 2) (Wout := fun _ _ _ _ => False) rfl rfl sc_law_told.nd rfl rfl ⟨rfl, by decide, Or.inl T.m_BadLetter⟩ takes0
    (fun W pn xe tk po => (pss_one (ps_set (i := 1) sc_law_told.nd rfl (.inl rfl) (pe_callS G_paper_from (hr.mono (by omega)) (by rfl) T.m_paper_from T.F_paper_from.kp T.b_paper_from (fun σ => passAt tk σ) (pa_cons (pv 0) pa_nil)))))
    (fun a oe cls d pn hz hf => (pss_one (ps_ret (pe_tup (pa_cons pe_str (pa_cons (pe_errF T.E_BadLetter hz hf (pv 2)) pa_nil)))))))
    (pss_one (ps_ret (pe_tup (pa_cons pe_str (pa_cons (pv 1) pa_nil)))))), ?_⟩
    walk_at "s"
    refine ⟨fun rows et H' a xs sm ha hxs => ?_, fun n et d H' sm hd hx2 => ?_⟩
    · walk_at "s"
      rename_i p hp
      refine q _ _ (sm.trans (same_new hp)) ?_
      rw [et]
      exact dt_tup upd_same (da_cons (dt_str _) (da_cons (Dt.same (same_new hp) _ _ (dt_tup ha hxs)) da_nil))
    · refine ⟨true, T.E_BadLetter.te, fun _ a' ha' => ?_, fun z => by cases z⟩
      walk_at "s"
      refine ⟨d, _, rfl, hx2, ?_⟩
      walk_at "s"
      rename_i p hp
      refine q _ _ (sm.trans (same_new hp)) ?_
      rw [et]
      exact dt_tup upd_same (da_cons (dt_str _) (da_cons (dt_int _) da_nil))
/-! ### a text spoilt -/
def signs : List Str := ["(", ")", " ", "-", "0", "\n", "a", "A", "_", ",", "\t", "7"]
theorem signs_len : signs.length = 12 := rfl
theorem signs_one : ∀ g ∈ signs, g.length = 1 := by decide +kernel
def spSpoilt : Sp := fun vs H Q _ => ∃ (s : Addr) (x : Str), vs = [.ref s, .str x] ∧ Src H s ∧ x.length ≤ 50000 ∧ ∀ (y : Str) H', But s H H' → Src H' s → y.length ≤ x.length + 1 → Q (.str y) H'
theorem ok_spoilt (T : Top K mg) : FnOk P w K mg base CX0 2 T.a_law_spoilt T.d_law_spoilt ["source", "text"] spSpoilt := by
  have G_law_pick := ok_pick (P := P) (w := w) (base := base) T
  refine T.F_law_spoilt.ok sc_law_spoilt (fun vs H Q E h => ?_) (fun cdv A outer s H vs Q E hr h => ?_)
  · obtain ⟨s, x, rfl, _⟩ := h
    rfl
  · obtain ⟨s, x, rfl, ⟨a, b, c, hs⟩, hx, q⟩ := h
    refine ⟨_, (pss_cons (ps_set (i := 2) sc_law_spoilt.nd rfl (.inl rfl) (pe_call G_law_pick (hr.mono (by omega)) (by rfl) T.m_law_pick T.F_law_pick.kp T.b_law_pick .nil pass0 (pa_cons (pv 0) (pa_cons (pe_op op_add (pe_callB call_len_str (by rfl) T.m_len (by decide +kernel) (pa_cons (pv 1) pa_nil)) pe_int) pa_nil))))
    (pss_cons (ps_set (i := 3) sc_law_spoilt.nd rfl (.inl rfl) (pe_ix ix_list (pe_lst (pa_cons pe_str (pa_cons pe_str (pa_cons pe_str (pa_cons pe_str (pa_cons pe_str (pa_cons pe_str (pa_cons pe_str (pa_cons pe_str (pa_cons pe_str (pa_cons pe_str (pa_cons pe_str (pa_cons pe_str pa_nil))))))))))))) (pe_call G_law_pick (hr.mono (by omega)) (by rfl) T.m_law_pick T.F_law_pick.kp T.b_law_pick .nil pass0 (pa_cons (pv 0) (pa_cons pe_int pa_nil))) (fun _ _ => rfl)))
    (pss_cons (ps_if (pt_cmpR op_eq (pe_call G_law_pick (hr.mono (by omega)) (by rfl) T.m_law_pick T.F_law_pick.kp T.b_law_pick .nil pass0 (pa_cons (pv 0) (pa_cons pe_int pa_nil))) pe_int (nomark _))
    (pss_one (ps_ret (pe_op op_add_str (pe_slice sl_str (pv 1) po_none (po_some (pv 2))) (pe_slice sl_str (pv 1) (po_some (pe_op op_add (pv 2) pe_int)) po_none))))
    pss_nil)
    (pss_one (ps_ret (pe_op op_add_str (pe_op op_add_str (pe_slice sl_str (pv 1) po_none (po_some (pv 2))) (pv 3)) (pe_slice sl_str (pv 1) (po_some (pe_op op_add (pv 2) (pe_call G_law_pick (hr.mono (by omega)) (by rfl) T.m_law_pick T.F_law_pick.kp T.b_law_pick .nil pass0 (pa_cons (pv 0) (pa_cons pe_int pa_nil))))) po_none))))))), ?_⟩
    have xsz : x.length ≤ sizeLine := sz_small (by omega)
    walk_at "s"
    rename_i k a1 b1 c1 k0 k1 p hp k2 a2 b2 c2 k3 k4
    have nps : s ≠ p := ne_of_none upd_same hp
    have np : H p = none := by
      rw [upd_ne nps.symm] at hp
      exact hp
    obtain ⟨g, hg, hat⟩ := atI_map (f := V.str) (ms := signs) (i := k2) k3 (by rw [signs_len]; exact k4)
    have g1 : g.length = 1 := signs_one _ (List.mem_of_getElem? hg)
    have hL : (upd (upd (upd H s (.lst [.int a1, .int b1, .int c1])) p (.lst (signs.map V.str))) s (.lst [.int a2, .int b2, .int c2])) p = some (.lst (signs.map V.str)) := (upd_ne nps.symm).trans upd_same
    have hs3 : (upd (upd (upd H s (.lst [.int a1, .int b1, .int c1])) p (.lst (signs.map V.str))) s (.lst [.int a2, .int b2, .int c2])) s = some (.lst [.int a2, .int b2, .int c2]) := upd_same
    have but3 : But s H (upd (upd (upd H s (.lst [.int a1, .int b1, .int c1])) p (.lst (signs.map V.str))) s (.lst [.int a2, .int b2, .int c2])) := (but_mut But.upd np).trans But.upd
    refine ⟨p, signs.map V.str, k2, _, rfl, rfl, SqL.of hL, hat, ?_⟩
    simp only [signs, List.map_cons, List.map_nil] at hs3 but3
    generalize upd (upd (upd H s (.lst [.int a1, .int b1, .int c1])) p (.lst [V.str "(", V.str ")", V.str " ", V.str "-", V.str "0", V.str "\n", V.str "a", V.str "A", V.str "_", V.str ",", V.str "\t", V.str "7"])) s (.lst [.int a2, .int b2, .int c2]) = H3 at hs3 but3 ⊢
    walk_at "s"
    · rename_i k5 a5 b5 c5 k6 k7 e
      have cl := cut_two (z := x) (a := k) (b := k + 1) k0 (by omega)
      refine ⟨sz_small (by omega), q _ _ (but3.trans But.upd) ⟨_, _, _, upd_same⟩ ?_⟩
      rw [app_len]
      omega
    · rename_i k5 a5 b5 c5 k6 k7 e
      have cl0 := cut_len (z := x) (lo := none) (hi := some k)
      refine ⟨sz_small (by omega), ?_⟩
      walk_at "s"
      rename_i k8 a8 b8 c8 k9 k10
      have cl := cut_two (z := x) (a := k) (b := k + k8) k0 (by omega)
      have gl := app_len (cutS x none (some k)) g
      refine ⟨sz_small (by omega), q _ _ ((but3.trans But.upd).trans But.upd) ⟨_, _, _, upd_same⟩ ?_⟩
      rw [app_len]
      omega
end
end K66W
set_option Elab.async false
set_option linter.all false
set_option maxRecDepth 100000
set_option maxHeartbeats 4000000
namespace K66W
open PySem PySem.Spec PyProof.Rows L2 TL LW PT
local macro_rules | `(tactic| walk_at "ne") => `(tactic| first
  | (with_reducible assumption)
  | exact Ne.symm (by assumption)
  | (with_reducible exact ne_of_none (by assumption) (by assumption))
  | (with_reducible exact (ne_of_none (by assumption) (by assumption)).symm)
  | (apply ne_of_none; (case h' => assumption); (case h => walk_at "hp"))
  | (apply Ne.symm; apply ne_of_none; (case h' => assumption); (case h => walk_at "hp")))
local macro_rules | `(tactic| walk_at "hp") => `(tactic| first
  | (with_reducible assumption)
  | exact upd_same
  | (with_reducible exact hp_new (by assumption) (by assumption))
  | (apply hp_new; (case n => assumption); (case h => walk_at "hp"))
  | (refine (upd_ne ?ne).trans ?hp; (case ne => walk_at "ne"); (case hp => walk_at "hp")))
local macro_rules | `(tactic| walk_at "sq") => `(tactic| first
  | ((with_reducible show SqL _ _ _ _); assumption)
  | ((with_reducible show SqT _ _ _ _); assumption)
  | exact SqL.of (by assumption)
  | exact SqL.of upd_same
  | exact SqT.of (by assumption)
  | exact SqT.of upd_same
  | (apply SqL.of; walk_at "hp")
  | (apply SqT.of; walk_at "hp"))
local macro_rules | `(tactic| walk_at "len") => `(tactic| first
  | (with_reducible assumption)
  | exact sz_small (by omega)
  | exact sz_less (by omega)
  | decide
  | (refine sz_small ?_; simp only [List.length_append, List.length_cons, List.length_nil, List.length_map, str_len]; omega)
  | (refine sz_less ?_; simp only [List.length_append, List.length_cons, List.length_nil, List.length_map, str_len]; omega))
local macro_rules | `(tactic| walk_at "cond") => `(tactic| first
  | omega
  | (split <;> omega)
  | (with_reducible assumption)
  | exact .inl ⟨by omega, by omega⟩
  | exact .inr ⟨by omega, by omega⟩
  | exact ⟨by omega, by omega⟩
  | (show (0 : Int) < _; omega)
  | (show (0 : Int) < _; decide +kernel)
  | exact ⟨by omega, by omega, by decide⟩
  | walk_at "len"
  | rfl
  | (show CMulW _ _; unfold CMulW; decide +kernel)
  | exact ⟨_, rfl⟩
  | decide +kernel
  | exact ⟨_, by walk_at "sq"⟩
  | exact .inl ⟨rfl, _, by walk_at "sq"⟩)
local macro_rules | `(tactic| walk_at "at") => `(tactic| first
  | (with_reducible assumption)
  | exact atI_nat (by assumption)
  | exact atI_last _ _
  | exact atI_nat (j := 0) rfl
  | exact atI_nat (j := 1) rfl
  | exact atI_nat (j := 2) rfl
  | exact atI_nat (j := 3) rfl
  | exact atI_nat (j := 4) rfl)
local macro_rules | `(tactic| walk_at "ix") => `(tactic| first
  | (with_reducible assumption)
  | (with_reducible exact ixN_0 (by simp; done))
  | (with_reducible exact ixN_1 (by simp; done))
  | (with_reducible exact ixN_2 (by simp; done))
  | (with_reducible exact Evl.ixN_nat (by assumption))
  | (with_reducible exact Evl.ixN_nat (by omega)))
local macro_rules | `(tactic| walk_at "v") => `(tactic| first
  | exact val_var rfl
  | (with_reducible exact val_c)
  | (with_reducible apply val_orV; (case ha => walk_at "v"); (case hb => walk_at "v"))
  | (with_reducible apply val_andV; (case ha => walk_at "v"); (case hb => walk_at "v"))
  | (with_reducible apply val_notV; walk_at "v")
  | (with_reducible apply val_ifS; (case h => walk_at "w"); (case ha => walk_at "v"); (case hb => walk_at "v"))
  | (with_reducible apply val_ifI; (case h => walk_at "w"); (case ha => walk_at "v"); (case hb => walk_at "v"))
  | (with_reducible apply val_ifB; (case h => walk_at "w"); (case ha => walk_at "v"); (case hb => walk_at "v"))
  | (with_reducible apply val_eqS; (case ha => walk_at "v"); (case hb => walk_at "v"))
  | (with_reducible apply val_eqI; (case ha => walk_at "v"); (case hb => walk_at "v"))
  | (with_reducible apply val_neS; (case ha => walk_at "v"); (case hb => walk_at "v"))
  | (with_reducible apply val_neI; (case ha => walk_at "v"); (case hb => walk_at "v"))
  | (with_reducible apply val_op; (case ha => walk_at "v"); (case hb => walk_at "v"); (case hr => exact fun Q q => ⟨_, _, rfl, rfl, q⟩)))
local macro_rules | `(tactic| walk_at "w") => `(tactic| first
  | (with_reducible apply ans_or2; (case h1 => walk_at "w"); (case h2 => walk_at "w"))
  | (with_reducible apply ans_and2; (case h1 => walk_at "w"); (case h2 => walk_at "w"))
  | (with_reducible apply ans_not; walk_at "w")
  | (with_reducible apply ans_test; walk_at "v")
  | (with_reducible apply ans_val; walk_at "v"))
local macro_rules | `(tactic| walk_at "s2") => `(tactic| first
  | refine ⟨_, rfl, ?_⟩
  | refine ⟨_, _, rfl, rfl, ?_⟩
  | (refine And.intro ?cc ?_; (case cc => walk_at "cond"))
  | refine ⟨_, _, _, _, rfl, rfl, by walk_at "sq", by walk_at "at", ?_⟩
  | refine ⟨_, _, _, _, rfl, rfl, by walk_at "hp", by walk_at "ix", ?_⟩
  | refine ⟨_, _, _, _, rfl, rfl, by walk_at "hp", by walk_at "hp", by walk_at "len", ?_⟩
  | refine ⟨_, _, _, rfl, rfl, by walk_at "len", by walk_at "at", ?_⟩
  | refine ⟨_, _, _, rfl, rfl, by walk_at "hp", by walk_at "len", ?_⟩
  | refine ⟨_, _, _, rfl, rfl, by walk_at "hp", by walk_at "at", ?_⟩
  | refine ⟨_, _, rfl, rfl, by walk_at "sq", ?_⟩
  | refine ⟨_, _, rfl, rfl, by walk_at "len", ?_⟩
  | refine ⟨_, _, rfl, by walk_at "sq", ?_⟩
  | refine ⟨_, _, rfl, .inl (by walk_at "sq"), ?_⟩
  | refine ⟨_, _, rfl, .inr (by walk_at "sq"), ?_⟩
  | refine ⟨_, _, rfl, by walk_at "sq", rfl, ?_⟩
  | refine ⟨_, fun _ _ h => h, ?_⟩
  | refine .inl ⟨_, rfl, ?_⟩
  | refine ⟨_, _, .type "int", .type _, true, rfl, ClsV.ty _, .base (.int _), kit_ty (by decide +kernel), ?_⟩
  | refine ⟨_, _, .type "int", .type _, false, rfl, ClsV.ty _, .base (.int _), kit_ty (by decide +kernel), ?_⟩
  | refine ⟨_, _, .type "bool", .type _, true, rfl, ClsV.ty _, .base (.bl _), kit_ty (by decide +kernel), ?_⟩
  | refine ⟨_, _, .type "bool", .type _, false, rfl, ClsV.ty _, .base (.bl _), kit_ty (by decide +kernel), ?_⟩
  | refine ⟨_, _, .type "str", .type _, true, rfl, ClsV.ty _, .base (.str _), kit_ty (by decide +kernel), ?_⟩
  | refine ⟨_, _, .type "str", .type _, false, rfl, ClsV.ty _, .base (.str _), kit_ty (by decide +kernel), ?_⟩
  | refine ⟨_, _, .type "NoneType", .type _, true, rfl, ClsV.ty _, .base (.non), kit_ty (by decide +kernel), ?_⟩
  | refine ⟨_, _, .type "NoneType", .type _, false, rfl, ClsV.ty _, .base (.non), kit_ty (by decide +kernel), ?_⟩
  | refine ⟨_, _, .type "list", .type _, true, rfl, ClsV.ty _, .base (.lst (by walk_at "hp")), kit_ty (by decide +kernel), ?_⟩
  | refine ⟨_, _, .type "list", .type _, false, rfl, ClsV.ty _, .base (.lst (by walk_at "hp")), kit_ty (by decide +kernel), ?_⟩
  | refine ⟨_, _, .type "tuple", .type _, true, rfl, ClsV.ty _, .base (.tup (by walk_at "hp")), kit_ty (by decide +kernel), ?_⟩
  | refine ⟨_, _, .type "tuple", .type _, false, rfl, ClsV.ty _, .base (.tup (by walk_at "hp")), kit_ty (by decide +kernel), ?_⟩
  | fail)
local macro_rules | `(tactic| walk_at "s1") => `(tactic| first
  | (with_reducible refine go_gcons ?_)
  | (with_reducible refine go_gnil ?_)
  | (with_reducible refine go_seqM ?_)
  | (with_reducible refine go_nextM ?_)
  | (with_reducible refine go_contM ?_)
  | (with_reducible refine go_brkM ?_)
  | (with_reducible refine go_retM ?_)
  | (with_reducible refine go_asgM ?_)
  | (with_reducible refine go_test ?_)
  | (with_reducible refine go_rI0 ?_)
  | (with_reducible refine go_op ?_)
  | (with_reducible refine go_var rfl ?_)
  | ((with_reducible show tFor (iRng1 _) _ _ _ _ _); refine (show iRng1 _ _ _ _ from ?_))
  | (with_reducible refine go_rng1 ?_)
  | (with_reducible refine go_c ?_)
  | (with_reducible apply go_pick; (case hs => walk_at "hp"); (case h0 => walk_at "cond"); (case h1 => walk_at "cond"); (case' q => intro k a b c h0 h1))
  | (with_reducible refine go_nil ?_)
  | (with_reducible refine go_cons ?_)
  | (with_reducible refine go_call ?_)
  | (with_reducible refine go_cb ?_)
  | (with_reducible refine go_next ?_)
  | (with_reducible refine go_cont ?_)
  | (with_reducible refine go_ret ?_)
  | (with_reducible refine go_name ?_)
  | (with_reducible refine go_seq ?_)
  | (with_reducible refine go_asg ?_)
  | (with_reducible apply go_or; (case h => walk_at "v"))
  | (with_reducible apply go_and; (case h => walk_at "v"))
  | (with_reducible apply go_andL; (case h => walk_at "v"); (case' h1 => intro e); (case' h2 => intro e))
  | (with_reducible apply go_orL; (case h => walk_at "v"); (case' h1 => intro e); (case' h2 => intro e))
  | (with_reducible apply go_ifE; (case h => walk_at "v"))
  | (with_reducible apply go_ifOr; (case h => walk_at "w"); (case' h1 => intro e); (case' h2 => intro e))
  | (with_reducible apply go_ifAnd; (case h => walk_at "w"); (case' h1 => intro e); (case' h2 => intro e))
  | (with_reducible refine go_min ?_)
  | (with_reducible refine iteT ?_)
  | (with_reducible refine iteF ?_)
  | (with_reducible refine iteD (fun _ => ?_) (fun e => absurd rfl e))
  | (with_reducible refine iteS (fun e => ?_) (fun e => ?_))
  | (with_reducible refine iteI (fun e => ?_) (fun e => ?_))
  | (with_reducible refine iteSn (fun e => ?_) (fun e => ?_))
  | (with_reducible refine iteIn (fun e => ?_) (fun e => ?_))
  | (with_reducible refine iteD (fun e => ?_) (fun e => ?_))
  | (with_reducible refine iteDn (fun e => ?_) (fun e => ?_))
  | (with_reducible refine ite2 (fun e => ?_) (fun e => ?_))
  | (refine fun (p : Addr) (hp : _ = none) => ?_)
  | ((conv => whnf); walk_at "s2")
  | fail)
local macro_rules | `(tactic| walk_at "s") => `(tactic| repeat' (first
  | (with_reducible refine go_gcons ?_)
  | (with_reducible refine go_gnil ?_)
  | (with_reducible refine go_seqM ?_)
  | (with_reducible refine go_nextM ?_)
  | (with_reducible refine go_contM ?_)
  | (with_reducible refine go_brkM ?_)
  | (with_reducible refine go_retM ?_)
  | (with_reducible refine go_asgM ?_)
  | (with_reducible refine go_test ?_)
  | (with_reducible refine go_rI0 ?_)
  | (with_reducible refine go_op ?_)
  | (with_reducible refine go_var rfl ?_)
  | ((with_reducible show tFor (iRng1 _) _ _ _ _ _); refine (show iRng1 _ _ _ _ from ?_))
  | (with_reducible refine go_rng1 ?_)
  | (with_reducible refine go_c ?_)
  | (with_reducible apply go_pick; (case hs => walk_at "hp"); (case h0 => walk_at "cond"); (case h1 => walk_at "cond"); (case' q => intro k a b c h0 h1))
  | (with_reducible refine go_nil ?_)
  | (with_reducible refine go_cons ?_)
  | (with_reducible refine go_call ?_)
  | (with_reducible refine go_cb ?_)
  | (with_reducible refine go_next ?_)
  | (with_reducible refine go_cont ?_)
  | (with_reducible refine go_ret ?_)
  | (with_reducible refine go_name ?_)
  | (with_reducible refine go_seq ?_)
  | (with_reducible refine go_asg ?_)
  | (with_reducible apply go_or; (case h => walk_at "v"))
  | (with_reducible apply go_and; (case h => walk_at "v"))
  | (with_reducible apply go_andL; (case h => walk_at "v"); (case' h1 => intro e); (case' h2 => intro e))
  | (with_reducible apply go_orL; (case h => walk_at "v"); (case' h1 => intro e); (case' h2 => intro e))
  | (with_reducible apply go_ifE; (case h => walk_at "v"))
  | (with_reducible apply go_ifOr; (case h => walk_at "w"); (case' h1 => intro e); (case' h2 => intro e))
  | (with_reducible apply go_ifAnd; (case h => walk_at "w"); (case' h1 => intro e); (case' h2 => intro e))
  | (with_reducible refine go_min ?_)
  | (with_reducible refine iteT ?_)
  | (with_reducible refine iteF ?_)
  | (with_reducible refine iteD (fun _ => ?_) (fun e => absurd rfl e))
  | (with_reducible refine iteS (fun e => ?_) (fun e => ?_))
  | (with_reducible refine iteI (fun e => ?_) (fun e => ?_))
  | (with_reducible refine iteSn (fun e => ?_) (fun e => ?_))
  | (with_reducible refine iteIn (fun e => ?_) (fun e => ?_))
  | (with_reducible refine iteD (fun e => ?_) (fun e => ?_))
  | (with_reducible refine iteDn (fun e => ?_) (fun e => ?_))
  | (with_reducible refine ite2 (fun e => ?_) (fun e => ?_))
  | (refine fun (p : Addr) (hp : _ = none) => ?_)
  | ((conv => whnf); walk_at "s2")
  | fail))

section
variable {P : Program} {w : World} {K : PySem.W.Frag} {mg : Str → Option Value} {base : Heap}
/-! ### the law -/
def spLaw (K : PySem.W.Frag) : Sp := fun vs H Q _ => ∃ (a : Addr) (ns : List Int), vs = [.ref a] ∧ SqL K H a (ns.map V.int) ∧ ns.length ≤ 63 ∧ ∀ H', Q (.bl true) H'
theorem ten18 : (10 : Int) ^ (18 : Int).toNat = 1000000000000000000 := by decide +kernel
theorem ten48 : (10 : Nat) ^ 48 = 1000000000000000000000000000000000000000000000000 := by decide +kernel
/-- a paper under way -/
def Pap (H : Hp) (P : Addr) (n : Nat) : Prop := ∃ (ys : List V) (rows : List (List PyData)), H P = some (.lst ys) ∧ DtAll H ys (rows.map .tuple) ∧ (∀ r ∈ rows, RmRow r) ∧ psz rows ≤ n ∧ rows.length ≤ n
theorem pap_fz {rows : List (List PyData)} (h : ∀ r ∈ rows, RmRow r) : fzAll (rows.map .tuple) = true := fzAll_iff.mpr fun d hd => by
  obtain ⟨r, hr, rfl⟩ := List.mem_map.mp hd
  unfold fz
  exact rmAll_fz r (h r hr).1
theorem Pap.but {H H' : Hp} {P s : Addr} {n : Nat} {xs : List V} (h : Pap H P n) (b : But s H H') (hs : H s = some (.lst xs)) (ne : P ≠ s) : Pap H' P n := by
  obtain ⟨ys, rows, h1, h2, h3, h4⟩ := h
  exact ⟨ys, rows, b _ _ ne h1, h2.ts (Ts.but b hs) _ _ (pap_fz h3), h3, h4⟩
theorem Pap.same {H H' : Hp} {P : Addr} {n : Nat} (h : Pap H P n) (b : Same H H') : Pap H' P n := by
  obtain ⟨ys, rows, h1, h2, h3, h4⟩ := h
  exact ⟨ys, rows, b _ _ h1, h2.same b, h3, h4⟩
theorem Pap.snoc {H : Hp} {P : Addr} {n m : Nat} {ys : List V} {rows : List (List PyData)} {p : Addr} {row : List PyData} (h1 : H P = some (.lst ys)) (h2 : DtAll H ys (rows.map .tuple)) (h3 : ∀ r ∈ rows, RmRow r) (h4 : psz rows ≤ n ∧ rows.length ≤ n)
    (hd : Dt H (.ref p) (.tuple row)) (hr : RmRow row) (hl : (line row).length + 1 ≤ m) (hm : 1 ≤ m) : Pap (upd H P (.lst (ys ++ [.ref p]))) P (n + m) := by
  have t : Ts H (upd H P (.lst (ys ++ [.ref p]))) := Ts.upd h1
  refine ⟨ys ++ [.ref p], rows ++ [row], upd_same, ?_, fun r h => ?_, ?_, ?_⟩
  · rw [List.map_append]
    exact da_app (h2.ts t _ _ (pap_fz h3)) (da_cons (hd.ts t _ _ (by unfold fz; exact rmAll_fz row hr.1)) da_nil)
  · rcases List.mem_append.mp h with h | h
    · exact h3 r h
    · rw [List.mem_singleton] at h
      rw [h]
      exact hr
  · rw [psz_snoc]
    omega
  · rw [List.length_append, List.length_singleton]
    omega
theorem toldD_head {H : Hp} {v : V} {r : Sum Nat (List (List PyData))} (h : Dt H v (toldD r)) : ∃ t xs, v = .ref t ∧ H t = some (.tup (.str (if isL r = true then Str.ofString "let" else Str.ofString "raised") :: xs)) := by
  cases r with
  | inl n =>
    unfold toldD Dt at h
    obtain ⟨t, xs, e, ht, hx⟩ := h
    unfold DtAll at hx
    obtain ⟨w, ws, rfl, h1, _⟩ := hx
    unfold Dt at h1
    subst h1
    exact ⟨t, ws, e, ht⟩
  | inr rows =>
    unfold toldD Dt at h
    obtain ⟨t, xs, e, ht, hx⟩ := h
    unfold DtAll at hx
    obtain ⟨w, ws, rfl, h1, _⟩ := hx
    unfold Dt at h1
    subst h1
    exact ⟨t, ws, e, ht⟩
theorem ok_law (T : Top K mg) : FnOk P w K mg base CX0 17 T.a_law T.d_law ["script"] (spLaw K) := by
  have G_law_source := ok_source (P := P) (w := w) (base := base) T
  have G_law_pick := ok_pick (P := P) (w := w) (base := base) T
  have G_law_member := ok_member (P := P) (w := w) (base := base) T 5
  have G_law_nest := ok_nest (P := P) (w := w) (base := base) T
  have G_law_number := ok_number (P := P) (w := w) (base := base) T
  have G_law_written := ok_law_written (P := P) (w := w) (base := base) T 13
  have G_law_same := ok_same (P := P) (w := w) (base := base) T 15
  have G_law_told := ok_told (P := P) (w := w) (base := base) T
  have G_law_read := ok_read (P := P) (w := w) (base := base) T
  have G_paper_text := ok_paper_text (P := P) (w := w) (base := base) T
  have G_law_spoilt := ok_spoilt (P := P) (w := w) (base := base) T
  refine T.F_law.ok sc_law (fun vs H Q E h => ?_) (fun cdv A outer s0 H vs Q E hr h => ?_)
  · obtain ⟨a, ns, rfl, _⟩ := h
    rfl
  · obtain ⟨a, ns, rfl, hS, hn, q⟩ := h
    refine ⟨_, (pss_cons (ps_set (i := 1) sc_law.nd rfl (.inr rfl) (pe_call G_law_source (hr.mono (by omega)) (by rfl) T.m_law_source T.F_law_source.kp T.b_law_source .nil pass0 (pa_cons (pv 0) (pa_cons pe_int pa_nil))))
    (pss_cons (ps_set (i := 2) sc_law.nd rfl (.inl rfl) (pe_lst pa_nil))
    (pss_cons (ps_for PassesOwn.never rfl (pi_range1 rfl T.m_range (pa_cons (pe_call G_law_pick (hr.mono (by omega)) (by rfl) T.m_law_pick T.F_law_pick.kp T.b_law_pick .nil pass0 (pa_cons (pv 1) (pa_cons pe_int pa_nil))) pa_nil)) (pg_name (i := 3) sc_law.nd rfl (.inl rfl))
    (pss_one (ps_expr (pe_bm PySem.F.plainAttrs_list PySem.F.slot_list_append PySem.F.type_list_append mt_append (pv 2) (pa_cons (pe_callTy call_tuple_of (by rfl) T.m_tuple (by decide +kernel) (pa_cons (pe_lc (own := [("k", 11)]) rfl sc_law.nd (pi_range1 rfl T.m_range (pa_cons (pe_op op_add pe_int (pe_call G_law_pick (hr.mono (by omega)) (by rfl) T.m_law_pick T.F_law_pick.kp T.b_law_pick .nil pass0 (pa_cons (pv 1) (pa_cons pe_int pa_nil)))) pa_nil)) (blkOk_by (own := [("k", 11)]) (N := ["script", "source", "paper", "turn", "text", "due", "other", "many", "line", "long", "row", "k"]) (sc := defScope s_law) (by decide +kernel)) (fun _ _ _ _ _ => (pg_name (i := 11) sc_law.nd rfl (.inl rfl))) (fun _ _ _ _ _ => pts_nil) (fun _ _ _ _ _ => (pe_call G_law_member (hr.mono (by omega)) (by rfl) T.m_law_member T.F_law_member.kp T.b_law_member .nil pass0 (pa_cons (pv 1) (pa_cons pe_int pa_nil))))) pa_nil)) pa_nil)))))
    (Evl.pss_cut (ps_if (pt_cmpR op_eq (pe_call G_law_pick (hr.mono (by omega)) (by rfl) T.m_law_pick T.F_law_pick.kp T.b_law_pick .nil pass0 (pa_cons (pv 1) (pa_cons pe_int pa_nil))) pe_int (nomark _))
    (pss_one (ps_expr (pe_bm PySem.F.plainAttrs_list PySem.F.slot_list_append PySem.F.type_list_append mt_append (pv 2) (pa_cons (pe_tup (pa_cons (pe_call G_law_nest (hr.mono (by omega)) (by rfl) T.m_law_nest T.F_law_nest.kp T.b_law_nest .nil pass0 (pa_cons (pe_call G_law_member (hr.mono (by omega)) (by rfl) T.m_law_member T.F_law_member.kp T.b_law_member .nil pass0 (pa_cons (pv 1) (pa_cons pe_int pa_nil))) (pa_cons (pe_call G_law_pick (hr.mono (by omega)) (by rfl) T.m_law_pick T.F_law_pick.kp T.b_law_pick .nil pass0 (pa_cons (pv 1) (pa_cons pe_int pa_nil))) pa_nil))) pa_nil)) pa_nil))))
    pss_nil)
    (Evl.pss_cut (ps_if (pt_cmpR op_eq (pe_call G_law_pick (hr.mono (by omega)) (by rfl) T.m_law_pick T.F_law_pick.kp T.b_law_pick .nil pass0 (pa_cons (pv 1) (pa_cons pe_int pa_nil))) pe_int (nomark _))
    (pss_one (ps_expr (pe_bm PySem.F.plainAttrs_list PySem.F.slot_list_append PySem.F.type_list_append mt_append (pv 2) (pa_cons (pe_tup (pa_cons (pe_op op_sub (pe_op op_mulW (pe_op op_pow pe_int pe_int) (pe_call G_law_number (hr.mono (by omega)) (by rfl) T.m_law_number T.F_law_number.kp T.b_law_number .nil pass0 (pa_cons (pv 1) (pa_cons (pe_op op_pow pe_int pe_int) pa_nil)))) pe_int) (pa_cons (pe_tup pa_nil) pa_nil))) pa_nil))))
    pss_nil)
    (pss_cons (ps_set (i := 2) sc_law.nd rfl (.inl rfl) (pe_callTy call_tuple_of (by rfl) T.m_tuple (by decide +kernel) (pa_cons (pv 2) pa_nil)))
    (pss_cons (ps_set (i := 4) sc_law.nd rfl (.inl rfl) (pe_join pe_str (pe_lc (own := [("row", 10)]) rfl sc_law.nd (pi_tup (pv 2)) (blkOk_by (own := [("row", 10)]) (N := ["script", "source", "paper", "turn", "text", "due", "other", "many", "line", "long", "row", "k"]) (sc := defScope s_law) (by decide +kernel)) (fun _ _ _ _ _ => (pg_name (i := 10) sc_law.nd rfl (.inl rfl))) (fun _ _ _ _ _ => pts_nil) (fun _ _ _ _ _ => (pe_slice sl_str (pe_call G_law_written (hr.mono (by omega)) (by rfl) T.m_law_written T.F_law_written.kp T.b_law_written .nil pass0 (pa_cons (pv 10) pa_nil)) (po_some pe_int) (po_some (pe_un un_neg pe_int)))))))
    (pss_cons (ps_set (i := 5) sc_law.nd rfl (.inl rfl) (pe_tup (pa_cons pe_str (pa_cons (pv 2) pa_nil))))
    (pss_cons (ps_if (PW.pt (pw_or (pt_not (pt_val (pe_call G_law_same (hr.mono (by omega)) (by rfl) T.m_law_same T.F_law_same.kp T.b_law_same .nil pass0 (pa_cons (pe_call G_law_told (hr.mono (by omega)) (by rfl) T.m_law_told T.F_law_told.kp T.b_law_told .nil pass0 (pa_cons (pv 4) pa_nil)) (pa_cons (pv 5) pa_nil))))) (pw_or (pt_not (pt_val (pe_call G_law_same (hr.mono (by omega)) (by rfl) T.m_law_same T.F_law_same.kp T.b_law_same .nil pass0 (pa_cons (pe_call G_paper_text (hr.mono (by omega)) (by rfl) T.m_paper_text T.F_paper_text.kp T.b_paper_text .nil pass0 (pa_cons (pv 2) pa_nil)) (pa_cons (pv 4) pa_nil))))) (pw_or1 (pt_not (pt_val (pe_call G_law_same (hr.mono (by omega)) (by rfl) T.m_law_same T.F_law_same.kp T.b_law_same .nil pass0 (pa_cons (pe_call G_law_told (hr.mono (by omega)) (by rfl) T.m_law_told T.F_law_told.kp T.b_law_told .nil pass0 (pa_cons (pv 4) pa_nil)) (pa_cons (pv 5) pa_nil)))))))))
    (pss_one (ps_ret pe_bl))
    pss_nil)
    (pss_cons (ps_for PassesOwn.never rfl (pi_range1 rfl T.m_range (pa_cons pe_int pa_nil)) (pg_name (i := 3) sc_law.nd rfl (.inl rfl))
    (pss_cons (ps_set (i := 6) sc_law.nd rfl (.inl rfl) (pe_call G_law_spoilt (hr.mono (by omega)) (by rfl) T.m_law_spoilt T.F_law_spoilt.kp T.b_law_spoilt .nil pass0 (pa_cons (pv 1) (pa_cons (pv 4) pa_nil))))
    (pss_cons (ps_if (pt_not (pt_val (pe_call G_law_same (hr.mono (by omega)) (by rfl) T.m_law_same T.F_law_same.kp T.b_law_same .nil pass0 (pa_cons (pe_call G_law_told (hr.mono (by omega)) (by rfl) T.m_law_told T.F_law_told.kp T.b_law_told .nil pass0 (pa_cons (pv 6) pa_nil)) (pa_cons (pe_call G_law_read (hr.mono (by omega)) (by rfl) T.m_law_read T.F_law_read.kp T.b_law_read .nil pass0 (pa_cons (pv 6) pa_nil)) pa_nil)))))
    (pss_one (ps_ret pe_bl))
    pss_nil)
    (pss_one (ps_if (pt_cmpR op_eq (pe_call G_law_pick (hr.mono (by omega)) (by rfl) T.m_law_pick T.F_law_pick.kp T.b_law_pick .nil pass0 (pa_cons (pv 1) (pa_cons pe_int pa_nil))) pe_int (nomark _))
    (pss_one (ps_set (i := 4) sc_law.nd rfl (.inl rfl) (pv 6)))
    pss_nil)))))
    (pss_cons (ps_set (i := 7) sc_law.nd rfl (.inl rfl) (pe_call G_law_pick (hr.mono (by omega)) (by rfl) T.m_law_pick T.F_law_pick.kp T.b_law_pick .nil pass0 (pa_cons (pv 1) (pa_cons pe_int pa_nil))))
    (pss_cons (ps_set (i := 8) sc_law.nd rfl (.inl rfl) (pe_op op_add_str (pe_op op_add_str (pe_op op_rep_str pe_str (pe_op op_add pe_int (pv 7))) pe_str) (pe_op op_rep_str pe_str (pe_op op_add pe_int (pv 7)))))
    (Evl.pss_cut (ps_if (pt_not (pt_val (pe_call G_law_same (hr.mono (by omega)) (by rfl) T.m_law_same T.F_law_same.kp T.b_law_same .nil pass0 (pa_cons (pe_call G_law_told (hr.mono (by omega)) (by rfl) T.m_law_told T.F_law_told.kp T.b_law_told .nil pass0 (pa_cons (pv 8) pa_nil)) (pa_cons (pe_ifExp (pt_cmpR op_eq (pv 7) pe_int (nomark _)) (pe_tup (pa_cons pe_str (pa_cons pe_int pa_nil))) (pe_tup (pa_cons pe_str (pa_cons (pe_tup (pa_cons (pe_tup (pa_cons (pe_call G_law_nest (hr.mono (by omega)) (by rfl) T.m_law_nest T.F_law_nest.kp T.b_law_nest .nil pass0 (pa_cons pe_str (pa_cons pe_int pa_nil))) pa_nil)) pa_nil)) pa_nil)))) pa_nil)))))
    (pss_one (ps_ret pe_bl))
    pss_nil)
    (pss_cons (ps_set (i := 9) sc_law.nd rfl (.inl rfl) (pe_op op_add_str pe_str (pe_op op_rep_str pe_str (pe_op op_add pe_int (pv 7)))))
    (pss_cons (ps_if (PW.pt (pw_or (pt_cmpR op_ne (pe_ix ix_tup (pe_call G_law_told (hr.mono (by omega)) (by rfl) T.m_law_told T.F_law_told.kp T.b_law_told .nil pass0 (pa_cons (pe_op op_add_str pe_str (pv 9)) pa_nil)) pe_int (fun _ _ => rfl)) (pe_ix ix_list (pe_lst (pa_cons pe_str (pa_cons pe_str pa_nil))) (pv 7) (fun _ _ => rfl)) (nomark _)) (pw_or1 (pt_cmpR op_ne (pe_ix ix_tup (pe_call G_law_told (hr.mono (by omega)) (by rfl) T.m_law_told T.F_law_told.kp T.b_law_told .nil pass0 (pa_cons (pe_op op_add_str (pe_op op_add_str pe_str (pv 9)) pe_str) pa_nil)) pe_int (fun _ _ => rfl)) (pe_ix ix_list (pe_lst (pa_cons pe_str (pa_cons pe_str pa_nil))) (pv 7) (fun _ _ => rfl)) (nomark _)))))
    (pss_one (ps_ret pe_bl))
    pss_nil)
    (pss_one (ps_ret (pe_and (pe_cmpR (op_eqD hr.units) (pe_call G_law_told (hr.mono (by omega)) (by rfl) T.m_law_told T.F_law_told.kp T.b_law_told .nil pass0 (pa_cons pe_str pa_nil)) (pe_tup (pa_cons pe_str (pa_cons (pe_tup pa_nil) pa_nil))) (nomark _)) (pe_and (pe_cmpR (op_eqD hr.units) (pe_call G_law_told (hr.mono (by omega)) (by rfl) T.m_law_told T.F_law_told.kp T.b_law_told .nil pass0 (pa_cons pe_str pa_nil)) (pe_tup (pa_cons pe_str (pa_cons pe_int pa_nil))) (nomark _)) (pe_one (pe_cmpR (op_eqD hr.units) (pe_call G_law_told (hr.mono (by omega)) (by rfl) T.m_law_told T.F_law_told.kp T.b_law_told .nil pass0 (pa_cons pe_str pa_nil)) (pe_tup (pa_cons pe_str (pa_cons pe_int pa_nil))) (nomark _)))))))))))))))))))))), ?_⟩
    walk_at "s"
    refine ⟨a, ns, 0, rfl, hS, hn, by omega, fun s c1 c2 c3 H1 sm1 ns1 hs1 => ?_⟩
    walk_at "s"
    rename_i P hP k a1 b1 c1 k0 k1
    have nsP : s ≠ P := ne_of_none hs1 hP
    have hs2 : (upd (upd H1 P (.lst [])) s (.lst [.int a1, .int b1, .int c1])) s = some (.lst [.int a1, .int b1, .int c1]) := upd_same
    have hP2 : (upd (upd H1 P (.lst [])) s (.lst [.int a1, .int b1, .int c1])) P = some (.lst []) := (upd_ne nsP.symm).trans upd_same
    generalize upd (upd H1 P (.lst [])) s (.lst [.int a1, .int b1, .int c1]) = H2 at hs2 hP2 ⊢
    refine for_rangeQ (lo := 0) (n := k.toNat) Q rfl (fun i σ H3 => ∃ v3, σ = [some (.ref a), some (.ref s), some (.ref P), v3, none, none, none, none, none, none, none, none] ∧ Src H3 s ∧ Pap H3 P (5125 * i)) ?_ ?_ ?_
    · exact ⟨_, rfl, ⟨_, _, _, hs2⟩, [], [], hP2, da_nil, by simp, Nat.zero_le _, Nat.zero_le _⟩
    · intro N X i σ H3 hi hPv hN
      obtain ⟨v3, rfl, ⟨a2, b2, c2, hs3⟩, hpap⟩ := hPv
      obtain ⟨pys0, rows0, hP3, _⟩ := id hpap
      walk_at "s"
      rename_i k2 a3 b3 c3 k20 k21 D hD
      have hs4 : (upd H3 s (.lst [.int a3, .int b3, .int c3])) s = some (.lst [.int a3, .int b3, .int c3]) := upd_same
      have hpap4 : Pap (upd H3 s (.lst [.int a3, .int b3, .int c3])) P (5125 * i) := hpap.but But.upd hs3 nsP.symm
      generalize upd H3 s (.lst [.int a3, .int b3, .int c3]) = H4 at hs4 hpap4 hD ⊢
      have nsD : s ≠ D := ne_of_none hs4 hD
      have nPD : P ≠ D := by
        obtain ⟨ys, rows, h1, _⟩ := hpap4
        exact ne_of_none h1 hD
      refine lc_range (lo := 0) (n := (1 + k2).toNat) (fun j H5 => Src H5 s ∧ Pap H5 P (5125 * i) ∧ ∃ (ys : List V) (ds : List PyData), H5 D = some (.lst ys) ∧ DtAll H5 ys ds ∧ ds.length = j ∧ ∀ d ∈ ds, Mem d 4) ?_ ?_ ?_
      · exact ⟨⟨_, _, _, hp_new hs4 hD⟩, hpap4.same (same_new hD), [], [], upd_same, da_nil, rfl, by simp⟩
      · intro j H5 hj hPv
        obtain ⟨src5, hpap5, ys, ds, hD5, hys, hdl, hds⟩ := hPv
        walk_at "s"
        refine ⟨s, 4, rfl, by omega, by omega, src5, fun y d H6 but6 src6 hm hy => ?_⟩
        obtain ⟨a5, b5, c5, hs5⟩ := src5
        have hD6 := but6 _ _ nsD.symm hD5
        have t6 : Ts H5 H6 := Ts.but but6 hs5
        have hfz : fzAll ds = true := fzAll_iff.mpr fun d hd => rm_fz d (hds d hd).1
        have hyl := da_len hys
        have hpap6 := hpap5.but but6 hs5 nsP.symm
        have t7 : Ts H6 (upd H6 D (.lst (ys ++ [y]))) := Ts.upd hD6
        refine ⟨ys, hD6, sz_less (by omega), ?_, hpap6.but But.upd hD6 nPD, ys ++ [y], ds ++ [d], upd_same, ?_, by rw [List.length_append, hdl]; rfl, fun x hx => ?_⟩
        · obtain ⟨a6, b6, c6, h6⟩ := src6
          exact ⟨a6, b6, c6, (upd_ne nsD).trans h6⟩
        · exact da_app (hys.ts (t6.trans t7) _ _ hfz) (da_cons (hy.ts t7 _ _ (rm_fz d hm.1)) da_nil)
        · rcases List.mem_append.mp hx with hx | hx
          · exact hds x hx
          · rw [List.mem_singleton] at hx
            rw [hx]
            exact hm
      · intro H5 hPv
        obtain ⟨⟨a5, b5, c5, hs5⟩, hpap5, ys, ds, hD5, hys, hdl, hds⟩ := hPv
        walk_at "s"
        refine ⟨D, ys, rfl, .inl ⟨SqL.of hD5, fun p hp => ?_⟩⟩
        have smp : Same H5 (upd H5 p (.tup ys)) := same_new hp
        obtain ⟨pys, rows, h1, h2, h3, h4⟩ := hpap5.same smp
        have hpl := da_len h2
        rw [List.length_map] at hpl
        have hd : Dt (upd H5 p (.tup ys)) (.ref p) (.tuple ds) := dt_tup upd_same (hys.same smp)
        have hs6 := smp _ _ hs5
        obtain ⟨rr, rl⟩ := row_drawn hds (by omega) (by omega)
        have hi7 : i < 7 := by omega
        have hlen : pys.length < sizeLine := sz_less (by omega)
        generalize upd H5 p (.tup ys) = H6 at h1 h2 hd hs6 ⊢
        walk_at "s"
        refine hN _ _ ⟨_, rfl, ⟨_, _, _, (upd_ne nsP).trans hs6⟩, ?_⟩
        rw [Nat.mul_add]
        exact Pap.snoc h1 h2 h3 h4 hd rr (by omega) (by decide)
    · intro σ H3 hPv
      obtain ⟨v3, rfl, ⟨a2, b2, c2, hs3⟩, hpap⟩ := hPv
      refine go_cutM (fun σ' H' => ∃ v3, σ' = [some (.ref a), some (.ref s), some (.ref P), v3, none, none, none, none, none, none, none, none] ∧ Src H' s ∧ Pap H' P (5125 * k.toNat + 56)) ?_ ?_
      · obtain ⟨pys0, rows0, hP3, _⟩ := id hpap
        walk_at "s"
        · rename_i k2 a3 b3 c3 k20 k21 e
          have hpap4 : Pap (upd H3 s (.lst [.int a3, .int b3, .int c3])) P (5125 * k.toNat) := hpap.but But.upd hs3 nsP.symm
          refine ⟨s, 0, rfl, by omega, by omega, ⟨_, _, _, upd_same⟩, fun y d H5 but5 src5 hm hy => ?_⟩
          have hpap5 := hpap4.but but5 upd_same nsP.symm
          obtain ⟨a5, b5, c5, hs5⟩ := src5
          walk_at "s"
          rename_i k6 a6 b6 c6 k60 k61
          obtain ⟨n, rfl⟩ : ∃ n : Nat, k6 = (n : Int) := ⟨k6.toNat, by omega⟩
          have hpap6 : Pap (upd H5 s (.lst [.int a6, .int b6, .int c6])) P (5125 * k.toNat) := hpap5.but But.upd hs5 nsP.symm
          have hs6 : upd H5 s (.lst [.int a6, .int b6, .int c6]) s = some (.lst [.int a6, .int b6, .int c6]) := upd_same
          have hy6 : Dt (upd H5 s (.lst [.int a6, .int b6, .int c6])) y d := hy.ts (Ts.upd hs5) _ _ (rm_fz d hm.1)
          generalize upd H5 s (.lst [.int a6, .int b6, .int c6]) = H6 at hpap6 hs6 hy6 ⊢
          refine ⟨y, d, n, rfl, hy6, by omega, fun z H7 sm7 hz => ?_⟩
          have hs7 := sm7 _ _ hs6
          obtain ⟨pys, rows, h1, h2, h3, h4⟩ := hpap6.same sm7
          obtain ⟨rr, rl⟩ := row_nest (n := n) hm (by omega)
          have hpl := da_len h2
          rw [List.length_map] at hpl
          have hlen : pys.length < sizeLine := sz_less (by omega)
          walk_at "s"
          rename_i p hp
          have smp : Same H7 (upd H7 p (.tup [z])) := same_new hp
          refine ⟨⟨_, _, _, (upd_ne nsP).trans (smp _ _ hs7)⟩, ?_⟩
          exact Pap.snoc (smp _ _ h1) (h2.same smp) h3 h4 (dt_tup upd_same (da_cons (Dt.same smp _ _ hz) da_nil)) rr (by omega) (by decide)
        · obtain ⟨ys, rows, h1, h2, h3, h4, h5⟩ := hpap.but (But.upd (o := .lst [.int _, .int _, .int _])) hs3 nsP.symm
          exact ⟨⟨_, _, _, upd_same⟩, ys, rows, h1, h2, h3, by omega, by omega⟩
      · intro σ' H' hM
        obtain ⟨v3, rfl, ⟨a2, b2, c2, hs3⟩, hpap⟩ := hM
        refine go_cutM (fun σ' H' => ∃ v3, σ' = [some (.ref a), some (.ref s), some (.ref P), v3, none, none, none, none, none, none, none, none] ∧ Src H' s ∧ Pap H' P (5125 * k.toNat + 56 + 53)) ?_ ?_
        · obtain ⟨pys0, rows0, hP3, _⟩ := id hpap
          walk_at "s"
          · rename_i k2 a3 b3 c3 k20 k21 e
            have hpap4 : Pap (upd H' s (.lst [.int a3, .int b3, .int c3])) P (5125 * k.toNat + 56) := hpap.but But.upd hs3 nsP.symm
            have p18 : (0 : Int) < (10 : Int) ^ (18 : Int).toNat := by
              rw [ten18]
              decide
            refine ⟨s, _, rfl, ⟨_, _, _, upd_same⟩, p18, fun n0 H5 n1 n2 but5 src5 => ?_⟩
            have hpap5 := hpap4.but but5 upd_same nsP.symm
            obtain ⟨a5, b5, c5, hs5⟩ := src5
            rw [ten18] at n2
            have mulw : CMulW ((10 : Int) ^ (30 : Int).toNat) n0 := wide_mul (a := 100) (b := 61) (by rw [ten30]; decide) (by
              have : (2 : Nat) ^ 61 = 2305843009213693952 := by decide
              omega) (by decide) (by decide) (by decide)
            walk_at "s"
            rename_i p1 hp1 p2 hp2
            have sm7 := (same_new (o := .tup []) hp1).trans (same_new (o := .tup [V.int (10 ^ (30 : Int).toNat * n0 - 1), .ref p1]) hp2)
            have d1 : Dt (upd (upd H5 p1 (.tup [])) p2 (.tup [V.int (10 ^ (30 : Int).toNat * n0 - 1), .ref p1])) (.ref p2) (.tuple [.int (10 ^ (30 : Int).toNat * n0 - 1), .tuple []]) := dt_tup upd_same (da_cons (dt_int _) (da_cons (dt_tup (hp_new upd_same hp2) da_nil) da_nil))
            obtain ⟨pys, rows, h1, h2, h3, h4⟩ := hpap5.same sm7
            obtain ⟨rr, rl⟩ := row_last (i := 10 ^ (30 : Int).toNat * n0 - 1) (by rw [ten30, ten48]; omega)
            have hpl := da_len h2
            rw [List.length_map] at hpl
            have hs7 := sm7 _ _ hs5
            generalize upd (upd H5 p1 (.tup [])) p2 (.tup [V.int (10 ^ (30 : Int).toNat * n0 - 1), .ref p1]) = H7 at d1 h1 h2 hs7 ⊢
            refine ⟨_, _, _, rfl, rfl, h1, sz_less (by omega), ?_⟩
            exact ⟨_, rfl, ⟨_, _, _, (upd_ne nsP).trans hs7⟩, Pap.snoc h1 h2 h3 h4 d1 rr (by omega) (by decide)⟩
          · obtain ⟨ys, rows, h1, h2, h3, h4, h5⟩ := hpap.but (But.upd (o := .lst [.int _, .int _, .int _])) hs3 nsP.symm
            exact ⟨⟨_, _, _, upd_same⟩, ys, rows, h1, h2, h3, by omega, by omega⟩
        · intro σ' H' hM
          obtain ⟨v3, rfl, ⟨a2, b2, c2, hs3⟩, hpap⟩ := hM
          obtain ⟨ys, rows, hP3, hys, hrr, hsz, hrl⟩ := hpap
          walk_at "s"
          refine ⟨P, ys, rfl, .inl ⟨SqL.of hP3, fun A1 hA1 => ?_⟩⟩
          walk_at "s"
          rename_i D hD
          have hs4 := same_new (o := .tup ys) hA1 _ _ hs3
          have hys4 := hys.same (same_new (o := .tup ys) hA1)
          have hA4 : upd H' A1 (.tup ys) A1 = some (.tup ys) := upd_same
          generalize upd H' A1 (.tup ys) = H4 at hs4 hys4 hA4 hD ⊢
          have hyl := da_len hys
          rw [List.length_map] at hyl
          have hk7 : k.toNat ≤ 6 := by omega
          have hpsz : psz rows ≤ 30859 := by omega
          have hpl := paper_len rows
          have hb10 : tl (Str.ofString "\n") = [10] := by decide +kernel
          have hrl2 : rows.length ≤ 31000 := by omega
          have hl' : (joinL [10] (rows.map line)).length ≤ 30859 := Nat.le_trans hpl hpsz
          refine lc_tup (xs := ys) (fun j H2 => Same H4 H2 ∧ H2 D = some (.lst ((((rows.take j).map line).map str).map V.str))) ?_ ?_ ?_ ?_
          · exact ⟨same_new hD, upd_same⟩
          · intro j H2 hj hP
            exact SqT.of (hP.1 _ _ hA4)
          · intro j x H2 hj hP
            obtain ⟨sm, h1⟩ := hP
            have hjl := (List.getElem?_eq_some_iff.mp hj).1
            have hjr : j < rows.length := by omega
            have hdr : rows[j]? = some rows[j] := List.getElem?_eq_getElem hjr
            have hdi : (rows.map PyData.tuple)[j]? = some (.tuple rows[j]) := by rw [List.getElem?_map, hdr]; rfl
            obtain ⟨x', ex, hx'⟩ := da_get hys4 hdi
            rw [hj] at ex
            cases ex
            obtain ⟨r1, r2, r3⟩ := hrr _ (List.mem_of_getElem? hdr)
            have hjoin : (line rows[j]).length ≤ 30859 := Nat.le_trans (joinL_len (S := [10]) _ (List.mem_map_of_mem (List.mem_of_getElem? hdr))) hl'
            have hst : rows.take (j + 1) = rows.take j ++ [rows[j]] := by rw [List.take_add_one, hdr]; rfl
            generalize rows[j] = row at hx' r1 r2 r3 hjoin hst
            have wl2 : (wr (.tuple row)).length ≤ 100000 := by
              rw [wr_row, List.length_cons, List.length_append, List.length_singleton]
              omega
            have wl3 : (str (wr (.tuple row))).length ≤ sizeLine := sz_small (by rw [str_len]; omega)
            walk_at "s"
            refine ⟨x, .tuple row, rfl, Dt.same sm _ _ hx', by unfold Wm; exact rmAll_wm row r1, by show depAll row + 1 < 13; omega, wl2, fun H5 sm5 => ?_⟩
            walk_at "s"
            rw [cut_row]
            have h4 := sm5 _ _ h1
            refine ⟨_, h4, ?_, same_mut (sm.trans sm5) hD, ?_⟩
            · rw [List.length_map, List.length_map, List.length_map, List.length_take]
              exact sz_less (by omega)
            · rw [upd_same, hst, List.map_append, List.map_append, List.map_append]
              rfl
          · intro H2 hP
            obtain ⟨sm, h1⟩ := hP
            rw [hyl, List.take_length] at h1
            refine ⟨_, D, (rows.map line).map str, rfl, rfl, .inl (SqL.of h1), join_fits 10 hb10 _ (by omega), ?_⟩
            rw [join_text 10 hb10]
            have hs5 := sm _ _ hs4
            have hA5 : Dt H2 (.ref A1) (.tuple (rows.map .tuple)) := dt_tup (sm _ _ hA4) (hys4.same sm)
            walk_at "s"
            rename_i U hU
            have smU := same_new (o := .tup [.str "let", .ref A1]) hU
            have hs6 := smU _ _ hs5
            have hA6 := Dt.same smU _ _ hA5
            have hU6 : Dt (upd H2 U (.tup [.str "let", .ref A1])) (.ref U) (toldD (.inr rows)) := dt_tup upd_same (da_cons (dt_str _) (da_cons hA6 da_nil))
            generalize upd H2 U (.tup [.str "let", .ref A1]) = H6 at hs6 hA6 hU6 ⊢
            have tp := told_paper hrr
            have td := toldD_dep (paper rows)
            rw [tp] at td
            have ht : (str (paper rows)).length ≤ 30859 := by
              rw [str_len]
              exact hl'
            refine ⟨Nat.le_trans ht (by decide), fun v H7 sm7 hv => ?_⟩
            have hv : Dt H7 v (toldD (told (paper rows))) := hv
            rw [tp] at hv
            have hU7 := Dt.same sm7 _ _ hU6
            walk_at "s"
            refine ⟨v, .ref U, toldD (.inr rows), rfl, hv, hU7, td, fun H8 sm8 => ?_⟩
            have hA8 := Dt.same sm8 _ _ (Dt.same sm7 _ _ hA6)
            walk_at "s"
            · rename_i e
              exact absurd e (by decide)
            refine ⟨.ref A1, rows, rfl, hA8, hrr, Nat.le_trans hl' (by decide), fun H9 sm9 => ?_⟩
            walk_at "s"
            refine ⟨_, _, .str (str (paper rows)), rfl, dt_str _, dt_str _, by show 0 < 15; decide, fun H10 sm10 => ?_⟩
            walk_at "s"
            · rename_i e
              exact absurd e (by decide)
            refine ⟨Nat.le_trans ht (by decide), fun v2 H11 sm11 hv2 => ?_⟩
            have hv2 : Dt H11 v2 (toldD (told (paper rows))) := hv2
            rw [tp] at hv2
            have sm711 := ((sm8.trans sm9).trans sm10).trans sm11
            walk_at "s"
            refine ⟨v2, .ref U, toldD (.inr rows), rfl, hv2, Dt.same sm711 _ _ hU7, td, fun H12 sm12 => ?_⟩
            have hs12 := sm12 _ _ (sm711 _ _ (sm7 _ _ hs6))
            walk_at "s"
            · rename_i e
              exact absurd e (by decide)
            refine for_rangeQ (lo := 0) (n := ((6 : Int)).toNat) Q rfl (fun i σ H13 => ∃ (v3 v6 : Option V) (t : Str), σ = [some (.ref a), some (.ref s), some (.ref A1), v3, some (.str t), some (.ref U), v6, none, none, none, none, none] ∧ Src H13 s ∧ t.length ≤ 31000 + i) ?_ ?_ ?_
            · exact ⟨_, _, _, rfl, ⟨_, _, _, hs12⟩, by show (str (paper rows)).length ≤ 31000 + 0; omega⟩
            · intro N X i σ H13 hi hPv hN
              obtain ⟨v3, v6, t, rfl, src13, htl⟩ := hPv
              have hi6 : i < 6 := hi
              walk_at "s"
              refine ⟨s, t, rfl, src13, by omega, fun y H14 but14 src14 hyl => ?_⟩
              obtain ⟨a5, b5, c5, hs14⟩ := src14
              walk_at "s"
              intro v H15 sm15 hv
              walk_at "s"
              intro v2 H16 sm16 hv2
              walk_at "s"
              refine ⟨v, v2, toldD (told (tl y)), rfl, Dt.same sm16 _ _ hv, hv2, toldD_dep _, fun H17 sm17 => ?_⟩
              have hs17 := sm17 _ _ (sm16 _ _ (sm15 _ _ hs14))
              walk_at "s"
              · rename_i e
                exact absurd e (by decide)
              · exact hN _ _ ⟨_, _, _, rfl, ⟨_, _, _, upd_same⟩, by omega⟩
              · exact hN _ _ ⟨_, _, _, rfl, ⟨_, _, _, upd_same⟩, by omega⟩
            · intro σ H13 hPv
              obtain ⟨v3, v6, t, rfl, ⟨a5, b5, c5, hs13⟩, htl⟩ := hPv
              walk_at "s"
              rename_i k5 a6 b6 c6 k50 k51
              have tl40 : tl (Str.ofString "(") = [40] := by decide +kernel
              have tl41 : tl (Str.ofString ")") = [41] := by decide +kernel
              have tlx : tl (Str.ofString "x") = [120] := by decide +kernel
              have l40 : (str (List.replicate (11 + k5).toNat 40)).length ≤ 20 := by rw [str_len, List.length_replicate]; omega
              have l41 : (str (List.replicate (11 + k5).toNat 41)).length ≤ 20 := by rw [str_len, List.length_replicate]; omega
              have lx : (Str.ofString "x").length ≤ 1 := by decide +kernel
              have lz : (str (List.replicate (11 + k5).toNat 40) ++ Str.ofString "x").length ≤ 21 := by rw [app_len]; omega
              refine ⟨_, 40, _, rfl, rfl, tl40, by omega, by omega, ?_⟩
              walk_at "s"
              refine ⟨_, 41, _, rfl, rfl, tl41, by omega, by omega, ?_⟩
              walk_at "s"
              have ez : tl (str (List.replicate (11 + k5).toNat 40) ++ Str.ofString "x" ++ str (List.replicate (11 + k5).toNat 41)) = deep (11 + k5).toNat := by
                rw [tl_append, tl_append, tlx]
                rfl
              have lzz : (str (List.replicate (11 + k5).toNat 40) ++ Str.ofString "x" ++ str (List.replicate (11 + k5).toNat 41)).length ≤ 50 := by rw [app_len]; omega
              generalize str (List.replicate (11 + k5).toNat 40) ++ Str.ofString "x" ++ str (List.replicate (11 + k5).toNat 41) = z at ez lzz ⊢
              refine go_cutM (fun σ' H' => ∃ (v3 v4 v5 v6 v8 : Option V), σ' = [some (.ref a), some (.ref s), some (.ref A1), v3, v4, v5, v6, some (.int k5), v8, none, none, none]) ?_ ?_
              · walk_at "s"
                intro v H14 sm14 hv
                rw [ez] at hv
                walk_at "s"
                · rename_i e p hp
                  subst e
                  have hv : Dt H14 v (toldD (.inl 1)) := by
                    rw [show ((11 : Int) + 1).toNat = 12 from rfl, told_deep12] at hv
                    exact hv
                  refine ⟨v, .ref p, toldD (.inl 1), rfl, Dt.same (same_new hp) _ _ hv, dt_tup upd_same (da_cons (dt_str _) (da_cons (dt_int _) da_nil)), by show max 0 (max 0 0) + 1 < 15; decide, fun H15 sm15 => ?_⟩
                  walk_at "s"
                  · rename_i e
                    exact absurd e (by decide)
                  · exact ⟨_, _, _, _, _, rfl⟩
                · rename_i e
                  have e0 : k5 = 0 := by omega
                  subst e0
                  have hv : Dt H14 v (toldD (.inr [[nest (.str (Str.ofString "x")) 11]])) := by
                    rw [show ((11 : Int) + 0).toNat = 11 from rfl, told_deep11] at hv
                    exact hv
                  refine ⟨.str "x", .str "x", 11, rfl, dt_str _, by decide, fun y H15 sm15 hy => ?_⟩
                  walk_at "s"
                  rename_i p1 hp1 p2 hp2 p3 hp3
                  have s1 := same_new (o := .tup [y]) hp1
                  have s2 := same_new (o := .tup [.ref p1]) hp2
                  have s3 := same_new (o := .tup [.str "let", .ref p2]) hp3
                  have y1 := Dt.same s1 _ _ hy
                  refine ⟨v, .ref p3, toldD (.inr [[nest (.str (Str.ofString "x")) 11]]), rfl, Dt.same (((sm15.trans s1).trans s2).trans s3) _ _ hv, dt_tup upd_same (da_cons (dt_str _) (da_cons (Dt.same s3 _ _ (dt_tup upd_same (da_cons (Dt.same s2 _ _ (dt_tup upd_same (da_cons y1 da_nil))) da_nil))) da_nil)), ?_, fun H16 sm16 => ?_⟩
                  · have := toldD_dep (deep 11)
                    rw [told_deep11] at this
                    exact this
                  walk_at "s"
                  · rename_i e
                    exact absurd e (by decide)
                  · exact ⟨_, _, _, _, _, rfl⟩
              · intro σ' H' hM
                obtain ⟨v3, v4, v5, v6, v8, rfl⟩ := hM
                walk_at "s"
                have tl0 : tl (Str.ofString "0") = [48] := by decide +kernel
                have tl1 : tl (Str.ofString "1") = [49] := by decide +kernel
                have tla : tl (Str.ofString "a\n") = [97, 10] := by decide +kernel
                have tlm : tl (Str.ofString "-") = [45] := by decide +kernel
                have tlb : tl (Str.ofString " 0") = [32, 48] := by decide +kernel
                refine ⟨_, 48, _, rfl, rfl, tl0, by omega, by omega, ?_⟩
                have l1 : (Str.ofString "1").length = 1 := by decide +kernel
                have la : (Str.ofString "a\n").length = 2 := by decide +kernel
                have lm : (Str.ofString "-").length = 1 := by decide +kernel
                have lb : (Str.ofString " 0").length = 2 := by decide +kernel
                have l48 : (str (List.replicate (999 + k5).toNat 48)).length ≤ 1000 := by rw [str_len, List.length_replicate]; omega
                have lg : (Str.ofString "1" ++ str (List.replicate (999 + k5).toNat 48)).length ≤ 1001 := by rw [app_len]; omega
                have eg : tl (Str.ofString "1" ++ str (List.replicate (999 + k5).toNat 48)) = long (999 + k5).toNat := by
                  rw [tl_append, tl1]
                  rfl
                refine ⟨_, _, rfl, rfl, sz_small (by omega), ?_⟩
                generalize Str.ofString "1" ++ str (List.replicate (999 + k5).toNat 48) = g at lg eg ⊢
                have lag : (Str.ofString "a\n" ++ g).length ≤ 1010 := by rw [app_len]; omega
                have lmg : (Str.ofString "-" ++ g).length ≤ 1010 := by rw [app_len]; omega
                have lmb : (Str.ofString "-" ++ g ++ Str.ofString " 0").length ≤ 1020 := by rw [app_len]; omega
                have e1 : tl (Str.ofString "a\n" ++ g) = [97, 10] ++ long (999 + k5).toNat := by rw [tl_append, tla, eg]
                have e2 : tl (Str.ofString "-" ++ g ++ Str.ofString " 0") = 45 :: long (999 + k5).toNat ++ [32, 48] := by rw [tl_append, tl_append, tlm, tlb, eg]; rfl
                have i1 := told_long (999 + k5).toNat
                have i2 := told_longN (999 + k5).toNat
                rw [← e1] at i1
                rw [← e2] at i2
                have em0 : tl (Str.ofString "") = [] := by decide +kernel
                have sh0 : SeqAt.shaped (toldD (.inr [])) = true := by decide +kernel
                have sh1 : SeqAt.shaped (toldD (.inl 2)) = true := by decide +kernel
                have ev0 : PyData.eqv (toldD (.inr [])) (toldD (.inr [])) = true := SeqAt.eqv_refl _ (SeqAt.canLay_of_shaped sh0)
                have ev1 : PyData.eqv (toldD (.inl 2)) (toldD (.inl 2)) = true := SeqAt.eqv_refl _ (SeqAt.canLay_of_shaped sh1)
                rcases (by omega : k5 = 0 ∨ k5 = 1) with rfl | rfl
                · walk_at "s"
                  intro v H15 sm15 hv
                  obtain ⟨t1, xs1, rfl, ht1⟩ := toldD_head hv
                  rw [i1] at ht1
                  have ht1 : H15 t1 = some (.tup (.str "let" :: xs1)) := ht1
                  walk_at "s"
                  · rename_i e
                    exact absurd rfl e
                  intro v H16 sm16 hv2
                  obtain ⟨t2, xs2, rfl, ht2⟩ := toldD_head hv2
                  rw [i2] at ht2
                  have ht2 : H16 t2 = some (.tup (.str "let" :: xs2)) := ht2
                  have z0 : (Str.ofString "").length ≤ 40000 := by decide +kernel
                  have z1 : (Str.ofString "a 1\n").length ≤ 40000 := by decide +kernel
                  have z2 : (Str.ofString "a\n\n00").length ≤ 40000 := by decide +kernel
                  walk_at "s"
                  · rename_i e
                    exact absurd rfl e
                  intro v H17 sm17 hw0
                  rw [em0, told_none] at hw0
                  walk_at "s"
                  rename_i q1 hq1 q2 hq2
                  have sq1 := same_new (o := .tup []) hq1
                  have sq2 := same_new (o := .tup [.str "let", .ref q1]) hq2
                  have hr0 : Dt _ (.ref q2) (toldD (.inr [])) := dt_tup (upd_same (H := upd H17 q1 (.tup [])) (a := q2)) (da_cons (dt_str _) (da_cons (dt_tup (hp_new upd_same hq2) da_nil) da_nil))
                  refine ⟨toldD (.inr []), toldD (.inr []), dt_dp _ _ (Dt.same (sq1.trans sq2) _ _ hw0), dt_dp _ _ hr0, sh0, sh0, ?_⟩
                  rw [ev0]
                  walk_at "s"
                  intro v5 H18 sm18 hw1
                  rw [told_end] at hw1
                  walk_at "s"
                  rename_i q3 hq3
                  have hr1 : Dt _ (.ref q3) (toldD (.inl 2)) := dt_tup (upd_same (H := H18) (a := q3)) (da_cons (dt_str _) (da_cons (dt_int _) da_nil))
                  refine ⟨toldD (.inl 2), toldD (.inl 2), dt_dp _ _ (Dt.same (same_new hq3) _ _ hw1), dt_dp _ _ hr1, sh1, sh1, ?_⟩
                  rw [ev1]
                  walk_at "s"
                  intro v6 H19 sm19 hw2
                  rw [told_gap] at hw2
                  walk_at "s"
                  rename_i q4 hq4
                  have hr2 : Dt _ (.ref q4) (toldD (.inl 2)) := dt_tup (upd_same (H := H19) (a := q4)) (da_cons (dt_str _) (da_cons (dt_int _) da_nil))
                  refine ⟨toldD (.inl 2), toldD (.inl 2), dt_dp _ _ (Dt.same (same_new hq4) _ _ hw2), dt_dp _ _ hr2, sh1, sh1, ?_⟩
                  rw [ev1]
                  exact q _
                · walk_at "s"
                  intro v H15 sm15 hv
                  obtain ⟨t1, xs1, rfl, ht1⟩ := toldD_head hv
                  rw [i1] at ht1
                  have ht1 : H15 t1 = some (.tup (.str "raised" :: xs1)) := ht1
                  walk_at "s"
                  · rename_i e
                    exact absurd rfl e
                  intro v H16 sm16 hv2
                  obtain ⟨t2, xs2, rfl, ht2⟩ := toldD_head hv2
                  rw [i2] at ht2
                  have ht2 : H16 t2 = some (.tup (.str "raised" :: xs2)) := ht2
                  have z0 : (Str.ofString "").length ≤ 40000 := by decide +kernel
                  have z1 : (Str.ofString "a 1\n").length ≤ 40000 := by decide +kernel
                  have z2 : (Str.ofString "a\n\n00").length ≤ 40000 := by decide +kernel
                  walk_at "s"
                  · rename_i e
                    exact absurd rfl e
                  intro v H17 sm17 hw0
                  rw [em0, told_none] at hw0
                  walk_at "s"
                  rename_i q1 hq1 q2 hq2
                  have sq1 := same_new (o := .tup []) hq1
                  have sq2 := same_new (o := .tup [.str "let", .ref q1]) hq2
                  have hr0 : Dt _ (.ref q2) (toldD (.inr [])) := dt_tup (upd_same (H := upd H17 q1 (.tup [])) (a := q2)) (da_cons (dt_str _) (da_cons (dt_tup (hp_new upd_same hq2) da_nil) da_nil))
                  refine ⟨toldD (.inr []), toldD (.inr []), dt_dp _ _ (Dt.same (sq1.trans sq2) _ _ hw0), dt_dp _ _ hr0, sh0, sh0, ?_⟩
                  rw [ev0]
                  walk_at "s"
                  intro v5 H18 sm18 hw1
                  rw [told_end] at hw1
                  walk_at "s"
                  rename_i q3 hq3
                  have hr1 : Dt _ (.ref q3) (toldD (.inl 2)) := dt_tup (upd_same (H := H18) (a := q3)) (da_cons (dt_str _) (da_cons (dt_int _) da_nil))
                  refine ⟨toldD (.inl 2), toldD (.inl 2), dt_dp _ _ (Dt.same (same_new hq3) _ _ hw1), dt_dp _ _ hr1, sh1, sh1, ?_⟩
                  rw [ev1]
                  walk_at "s"
                  intro v6 H19 sm19 hw2
                  rw [told_gap] at hw2
                  walk_at "s"
                  rename_i q4 hq4
                  have hr2 : Dt _ (.ref q4) (toldD (.inl 2)) := dt_tup (upd_same (H := H19) (a := q4)) (da_cons (dt_str _) (da_cons (dt_int _) da_nil))
                  refine ⟨toldD (.inl 2), toldD (.inl 2), dt_dp _ _ (Dt.same (same_new hq4) _ _ hw2), dt_dp _ _ hr2, sh1, sh1, ?_⟩
                  rw [ev1]
                  exact q _
end
end K66W
set_option Elab.async false
set_option linter.all false
set_option maxRecDepth 100000
set_option maxHeartbeats 4000000
namespace K66W
open PySem PySem.Spec PyProof.Rows L2 TL LW
def top_mk {K : PySem.W.Frag} {h : Heap} {mg : Str → Option Value} (X : K.In h) (G : h.Ns mainGlobals mg)
    {C_SleepError C_BadLetter : Addr}
    {nm q : Str} {NB : Addr} {bs : List Value} {sn : List Str} {sub : List Value} {ab : Bool} {col : Option Bool} {dd : Option Addr} {w0 w1 w2 w3 w5 : Option Value}
    {f0 : Addr} {od0 an0 : Option Addr} {sl0 : Array (Option Value)} {oc0 kV0 dc0 pm0 cd0 ct0 : Value}
    {f1 : Addr} {od1 an1 : Option Addr} {sl1 : Array (Option Value)} {oc1 kV1 dc1 pm1 cd1 ct1 : Value}
    {f2 : Addr} {od2 an2 : Option Addr} {sl2 : Array (Option Value)} {oc2 kV2 dc2 pm2 cd2 ct2 : Value}
    {f3 : Addr} {od3 an3 : Option Addr} {sl3 : Array (Option Value)} {oc3 kV3 dc3 pm3 cd3 ct3 : Value}
    {f4 : Addr} {od4 an4 : Option Addr} {sl4 : Array (Option Value)} {oc4 kV4 dc4 pm4 cd4 ct4 : Value}
    {f5 : Addr} {od5 an5 : Option Addr} {sl5 : Array (Option Value)} {oc5 kV5 dc5 pm5 cd5 ct5 : Value}
    {f6 : Addr} {od6 an6 : Option Addr} {sl6 : Array (Option Value)} {oc6 kV6 dc6 pm6 cd6 ct6 : Value}
    {f7 : Addr} {od7 an7 : Option Addr} {sl7 : Array (Option Value)} {oc7 kV7 dc7 pm7 cd7 ct7 : Value}
    {f8 : Addr} {od8 an8 : Option Addr} {sl8 : Array (Option Value)} {oc8 kV8 dc8 pm8 cd8 ct8 : Value}
    {f9 : Addr} {od9 an9 : Option Addr} {sl9 : Array (Option Value)} {oc9 kV9 dc9 pm9 cd9 ct9 : Value}
    {f10 : Addr} {od10 an10 : Option Addr} {sl10 : Array (Option Value)} {oc10 kV10 dc10 pm10 cd10 ct10 : Value}
    {f11 : Addr} {od11 an11 : Option Addr} {sl11 : Array (Option Value)} {oc11 kV11 dc11 pm11 cd11 ct11 : Value}
    {f12 : Addr} {od12 an12 : Option Addr} {sl12 : Array (Option Value)} {oc12 kV12 dc12 pm12 cd12 ct12 : Value}
    {f13 : Addr} {od13 an13 : Option Addr} {sl13 : Array (Option Value)} {oc13 kV13 dc13 pm13 cd13 ct13 : Value}
    {f14 : Addr} {od14 an14 : Option Addr} {sl14 : Array (Option Value)} {oc14 kV14 dc14 pm14 cd14 ct14 : Value}
    {f15 : Addr} {od15 an15 : Option Addr} {sl15 : Array (Option Value)} {oc15 kV15 dc15 pm15 cd15 ct15 : Value}
    {f16 : Addr} {od16 an16 : Option Addr} {sl16 : Array (Option Value)} {oc16 kV16 dc16 pm16 cd16 ct16 : Value}
    {f17 : Addr} {od17 an17 : Option Addr} {sl17 : Array (Option Value)} {oc17 kV17 dc17 pm17 cd17 ct17 : Value}
    {f18 : Addr} {od18 an18 : Option Addr} {sl18 : Array (Option Value)} {oc18 kV18 dc18 pm18 cd18 ct18 : Value}
    {f19 : Addr} {od19 an19 : Option Addr} {sl19 : Array (Option Value)} {oc19 kV19 dc19 pm19 cd19 ct19 : Value}
    {f20 : Addr} {od20 an20 : Option Addr} {sl20 : Array (Option Value)} {oc20 kV20 dc20 pm20 cd20 ct20 : Value}
    {f21 : Addr} {od21 an21 : Option Addr} {sl21 : Array (Option Value)} {oc21 kV21 dc21 pm21 cd21 ct21 : Value}
    {f22 : Addr} {od22 an22 : Option Addr} {sl22 : Array (Option Value)} {oc22 kV22 dc22 pm22 cd22 ct22 : Value}
    {f23 : Addr} {od23 an23 : Option Addr} {sl23 : Array (Option Value)} {oc23 kV23 dc23 pm23 cd23 ct23 : Value}
    {f24 : Addr} {od24 an24 : Option Addr} {sl24 : Array (Option Value)} {oc24 kV24 dc24 pm24 cd24 ct24 : Value}
    {f25 : Addr} {od25 an25 : Option Addr} {sl25 : Array (Option Value)} {oc25 kV25 dc25 pm25 cd25 ct25 : Value}
    {t26 : Tok}
    {t27 : Tok}
    (xS : PySem.W.nsIn K mainGlobals "SleepError" = some (some (.ref C_SleepError)))
    (xS1 : PySem.W.specialIn K (.ref C_SleepError) "__getattribute__" = some (some (.builtin "type.__getattribute__"))) (xS2 : PySem.W.readsIn K C_SleepError (.type "type") = true) (xS3 : PySem.W.findCls K (.ref C_SleepError) (.type "type") "__init__" = some (.val (.builtin "ValueError.__init__")))
    (xB : PySem.W.nsIn K mainGlobals "BadLetter" = some (some (.ref C_BadLetter)))
    (xL : K.lookup C_BadLetter = some (excClassObj nm q C_BadLetter NB bs [.ref C_SleepError, .type "ValueError", .type "Exception", .type "BaseException", .type "object"] true sn sub ab col dd w0 w1 w2 w3 w5 "ValueError.__new__"))
    (xsa : PySem.W.findIn K (.ref C_BadLetter) "__setattr__" = some (some (.builtin "object.__setattr__"))) (xga : PySem.W.findIn K (.ref C_BadLetter) "__getattribute__" = some (some (.builtin "BaseException.__getattribute__"))) (xgg : PySem.W.findIn K (.ref C_BadLetter) "__getattr__" = some none) (xno : PySem.W.findIn K (.ref C_BadLetter) "line" = some none)
    (xk : PySem.W.keepIn K (.ref C_BadLetter) = true) (xe : PySem.W.subIn K (.ref C_BadLetter) (.type "BaseException") = some true) (xt : PySem.W.typeIn K (.ref C_BadLetter) = some (.type "type")) (xh : PySem.W.hasDictIn K C_BadLetter = true) (xi : PySem.W.isClsIn K C_BadLetter = true) (xs : PySem.W.subIn K (.ref C_BadLetter) (.ref C_BadLetter) = some true)
    (xd : PySem.W.nsIn K cStatics "sys.int_max_str_digits" = some none)
    (a0 : PySem.W.findIn K (.ref C_BadLetter) "__init__" = some (some (.ref f0))) (i0 : PySem.W.typeIn K (.ref f0) = some (.type "function")) (l0 : K.lookup f0 = some ⟨oc0, od0, .func (PySem.W.fnOf "__init__" "BadLetter.__init__" (defArgs s_BadLetter___init__) (defBody s_BadLetter___init__) (defScope s_BadLetter___init__) .none kV0 dc0 pm0 an0 cd0 ct0), sl0⟩) (c0 : PySem.W.codeIn K cd0 "BadLetter.__init__" = true) (k0 : PySem.W.keepIn K (.ref f0) = true)
    (a1 : PySem.W.nsIn K mainGlobals "paper_text" = some (some (.ref f1))) (l1 : K.lookup f1 = some ⟨oc1, od1, .func (PySem.W.fnOf "paper_text" "paper_text" (defArgs s_paper_text) (defBody s_paper_text) (defScope s_paper_text) .none kV1 dc1 pm1 an1 cd1 ct1), sl1⟩) (c1 : PySem.W.codeIn K cd1 "paper_text" = true) (k1 : PySem.W.keepIn K (.ref f1) = true)
    (a2 : PySem.W.nsIn K mainGlobals "member_text" = some (some (.ref f2))) (l2 : K.lookup f2 = some ⟨oc2, od2, .func (PySem.W.fnOf "member_text" "member_text" (defArgs s_member_text) (defBody s_member_text) (defScope s_member_text) .none kV2 dc2 pm2 an2 cd2 ct2), sl2⟩) (c2 : PySem.W.codeIn K cd2 "member_text" = true) (k2 : PySem.W.keepIn K (.ref f2) = true)
    (a3 : PySem.W.nsIn K mainGlobals "is_word" = some (some (.ref f3))) (l3 : K.lookup f3 = some ⟨oc3, od3, .func (PySem.W.fnOf "is_word" "is_word" (defArgs s_is_word) (defBody s_is_word) (defScope s_is_word) .none kV3 dc3 pm3 an3 cd3 ct3), sl3⟩) (c3 : PySem.W.codeIn K cd3 "is_word" = true) (k3 : PySem.W.keepIn K (.ref f3) = true)
    (a4 : PySem.W.nsIn K mainGlobals "is_number" = some (some (.ref f4))) (l4 : K.lookup f4 = some ⟨oc4, od4, .func (PySem.W.fnOf "is_number" "is_number" (defArgs s_is_number) (defBody s_is_number) (defScope s_is_number) .none kV4 dc4 pm4 an4 cd4 ct4), sl4⟩) (c4 : PySem.W.codeIn K cd4 "is_number" = true) (k4 : PySem.W.keepIn K (.ref f4) = true)
    (a5 : PySem.W.nsIn K mainGlobals "line_tokens" = some (some (.ref f5))) (l5 : K.lookup f5 = some ⟨oc5, od5, .func (PySem.W.fnOf "line_tokens" "line_tokens" (defArgs s_line_tokens) (defBody s_line_tokens) (defScope s_line_tokens) .none kV5 dc5 pm5 an5 cd5 ct5), sl5⟩) (c5 : PySem.W.codeIn K cd5 "line_tokens" = true) (k5 : PySem.W.keepIn K (.ref f5) = true)
    (a6 : PySem.W.nsIn K mainGlobals "line_of" = some (some (.ref f6))) (l6 : K.lookup f6 = some ⟨oc6, od6, .func (PySem.W.fnOf "line_of" "line_of" (defArgs s_line_of) (defBody s_line_of) (defScope s_line_of) .none kV6 dc6 pm6 an6 cd6 ct6), sl6⟩) (c6 : PySem.W.codeIn K cd6 "line_of" = true) (k6 : PySem.W.keepIn K (.ref f6) = true)
    (a7 : PySem.W.nsIn K mainGlobals "read_line" = some (some (.ref f7))) (l7 : K.lookup f7 = some ⟨oc7, od7, .func (PySem.W.fnOf "read_line" "read_line" (defArgs s_read_line) (defBody s_read_line) (defScope s_read_line) .none kV7 dc7 pm7 an7 cd7 ct7), sl7⟩) (c7 : PySem.W.codeIn K cd7 "read_line" = true) (k7 : PySem.W.keepIn K (.ref f7) = true)
    (a8 : PySem.W.nsIn K mainGlobals "read_word" = some (some (.ref f8))) (l8 : K.lookup f8 = some ⟨oc8, od8, .func (PySem.W.fnOf "read_word" "read_word" (defArgs s_read_word) (defBody s_read_word) (defScope s_read_word) .none kV8 dc8 pm8 an8 cd8 ct8), sl8⟩) (c8 : PySem.W.codeIn K cd8 "read_word" = true) (k8 : PySem.W.keepIn K (.ref f8) = true)
    (a9 : PySem.W.nsIn K mainGlobals "paper_from" = some (some (.ref f9))) (l9 : K.lookup f9 = some ⟨oc9, od9, .func (PySem.W.fnOf "paper_from" "paper_from" (defArgs s_paper_from) (defBody s_paper_from) (defScope s_paper_from) .none kV9 dc9 pm9 an9 cd9 ct9), sl9⟩) (c9 : PySem.W.codeIn K cd9 "paper_from" = true) (k9 : PySem.W.keepIn K (.ref f9) = true)
    (a10 : PySem.W.nsIn K mainGlobals "_law_source" = some (some (.ref f10))) (l10 : K.lookup f10 = some ⟨oc10, od10, .func (PySem.W.fnOf "_law_source" "_law_source" (defArgs s_law_source) (defBody s_law_source) (defScope s_law_source) .none kV10 dc10 pm10 an10 cd10 ct10), sl10⟩) (c10 : PySem.W.codeIn K cd10 "_law_source" = true) (k10 : PySem.W.keepIn K (.ref f10) = true)
    (a11 : PySem.W.nsIn K mainGlobals "_law_pick" = some (some (.ref f11))) (l11 : K.lookup f11 = some ⟨oc11, od11, .func (PySem.W.fnOf "_law_pick" "_law_pick" (defArgs s_law_pick) (defBody s_law_pick) (defScope s_law_pick) .none kV11 dc11 pm11 an11 cd11 ct11), sl11⟩) (c11 : PySem.W.codeIn K cd11 "_law_pick" = true) (k11 : PySem.W.keepIn K (.ref f11) = true)
    (a12 : PySem.W.nsIn K mainGlobals "_law_number" = some (some (.ref f12))) (l12 : K.lookup f12 = some ⟨oc12, od12, .func (PySem.W.fnOf "_law_number" "_law_number" (defArgs s_law_number) (defBody s_law_number) (defScope s_law_number) .none kV12 dc12 pm12 an12 cd12 ct12), sl12⟩) (c12 : PySem.W.codeIn K cd12 "_law_number" = true) (k12 : PySem.W.keepIn K (.ref f12) = true)
    (a13 : PySem.W.nsIn K mainGlobals "_law_shuffled" = some (some (.ref f13))) (l13 : K.lookup f13 = some ⟨oc13, od13, .func (PySem.W.fnOf "_law_shuffled" "_law_shuffled" (defArgs s_law_shuffled) (defBody s_law_shuffled) (defScope s_law_shuffled) .none kV13 dc13 pm13 an13 cd13 ct13), sl13⟩) (c13 : PySem.W.codeIn K cd13 "_law_shuffled" = true) (k13 : PySem.W.keepIn K (.ref f13) = true)
    (a14 : PySem.W.nsIn K mainGlobals "_law_grammar" = some (some (.ref f14))) (l14 : K.lookup f14 = some ⟨oc14, od14, .func (PySem.W.fnOf "_law_grammar" "_law_grammar" (defArgs s_law_grammar) (defBody s_law_grammar) (defScope s_law_grammar) .none kV14 dc14 pm14 an14 cd14 ct14), sl14⟩) (c14 : PySem.W.codeIn K cd14 "_law_grammar" = true) (k14 : PySem.W.keepIn K (.ref f14) = true)
    (a15 : PySem.W.nsIn K mainGlobals "_law_words" = some (some (.ref f15))) (l15 : K.lookup f15 = some ⟨oc15, od15, .func (PySem.W.fnOf "_law_words" "_law_words" (defArgs s_law_words) (defBody s_law_words) (defScope s_law_words) .none kV15 dc15 pm15 an15 cd15 ct15), sl15⟩) (c15 : PySem.W.codeIn K cd15 "_law_words" = true) (k15 : PySem.W.keepIn K (.ref f15) = true)
    (a16 : PySem.W.nsIn K mainGlobals "_law_same" = some (some (.ref f16))) (l16 : K.lookup f16 = some ⟨oc16, od16, .func (PySem.W.fnOf "_law_same" "_law_same" (defArgs s_law_same) (defBody s_law_same) (defScope s_law_same) .none kV16 dc16 pm16 an16 cd16 ct16), sl16⟩) (c16 : PySem.W.codeIn K cd16 "_law_same" = true) (k16 : PySem.W.keepIn K (.ref f16) = true)
    (a17 : PySem.W.nsIn K mainGlobals "_law_member" = some (some (.ref f17))) (l17 : K.lookup f17 = some ⟨oc17, od17, .func (PySem.W.fnOf "_law_member" "_law_member" (defArgs s_law_member) (defBody s_law_member) (defScope s_law_member) .none kV17 dc17 pm17 an17 cd17 ct17), sl17⟩) (c17 : PySem.W.codeIn K cd17 "_law_member" = true) (k17 : PySem.W.keepIn K (.ref f17) = true)
    (a18 : PySem.W.nsIn K mainGlobals "_law_nest" = some (some (.ref f18))) (l18 : K.lookup f18 = some ⟨oc18, od18, .func (PySem.W.fnOf "_law_nest" "_law_nest" (defArgs s_law_nest) (defBody s_law_nest) (defScope s_law_nest) .none kV18 dc18 pm18 an18 cd18 ct18), sl18⟩) (c18 : PySem.W.codeIn K cd18 "_law_nest" = true) (k18 : PySem.W.keepIn K (.ref f18) = true)
    (a19 : PySem.W.nsIn K mainGlobals "_law_written" = some (some (.ref f19))) (l19 : K.lookup f19 = some ⟨oc19, od19, .func (PySem.W.fnOf "_law_written" "_law_written" (defArgs s_law_written) (defBody s_law_written) (defScope s_law_written) .none kV19 dc19 pm19 an19 cd19 ct19), sl19⟩) (c19 : PySem.W.codeIn K cd19 "_law_written" = true) (k19 : PySem.W.keepIn K (.ref f19) = true)
    (a20 : PySem.W.nsIn K mainGlobals "_law_word" = some (some (.ref f20))) (l20 : K.lookup f20 = some ⟨oc20, od20, .func (PySem.W.fnOf "_law_word" "_law_word" (defArgs s_law_word) (defBody s_law_word) (defScope s_law_word) .none kV20 dc20 pm20 an20 cd20 ct20), sl20⟩) (c20 : PySem.W.codeIn K cd20 "_law_word" = true) (k20 : PySem.W.keepIn K (.ref f20) = true)
    (a21 : PySem.W.nsIn K mainGlobals "_law_line" = some (some (.ref f21))) (l21 : K.lookup f21 = some ⟨oc21, od21, .func (PySem.W.fnOf "_law_line" "_law_line" (defArgs s_law_line) (defBody s_law_line) (defScope s_law_line) .none kV21 dc21 pm21 an21 cd21 ct21), sl21⟩) (c21 : PySem.W.codeIn K cd21 "_law_line" = true) (k21 : PySem.W.keepIn K (.ref f21) = true)
    (a22 : PySem.W.nsIn K mainGlobals "_law_read" = some (some (.ref f22))) (l22 : K.lookup f22 = some ⟨oc22, od22, .func (PySem.W.fnOf "_law_read" "_law_read" (defArgs s_law_read) (defBody s_law_read) (defScope s_law_read) .none kV22 dc22 pm22 an22 cd22 ct22), sl22⟩) (c22 : PySem.W.codeIn K cd22 "_law_read" = true) (k22 : PySem.W.keepIn K (.ref f22) = true)
    (a23 : PySem.W.nsIn K mainGlobals "_law_told" = some (some (.ref f23))) (l23 : K.lookup f23 = some ⟨oc23, od23, .func (PySem.W.fnOf "_law_told" "_law_told" (defArgs s_law_told) (defBody s_law_told) (defScope s_law_told) .none kV23 dc23 pm23 an23 cd23 ct23), sl23⟩) (c23 : PySem.W.codeIn K cd23 "_law_told" = true) (k23 : PySem.W.keepIn K (.ref f23) = true)
    (a24 : PySem.W.nsIn K mainGlobals "_law_spoilt" = some (some (.ref f24))) (l24 : K.lookup f24 = some ⟨oc24, od24, .func (PySem.W.fnOf "_law_spoilt" "_law_spoilt" (defArgs s_law_spoilt) (defBody s_law_spoilt) (defScope s_law_spoilt) .none kV24 dc24 pm24 an24 cd24 ct24), sl24⟩) (c24 : PySem.W.codeIn K cd24 "_law_spoilt" = true) (k24 : PySem.W.keepIn K (.ref f24) = true)
    (a25 : PySem.W.nsIn K mainGlobals "law" = some (some (.ref f25))) (l25 : K.lookup f25 = some ⟨oc25, od25, .func (PySem.W.fnOf "law" "law" (defArgs s_law) (defBody s_law) (defScope s_law) .none kV25 dc25 pm25 an25 cd25 ct25), sl25⟩) (c25 : PySem.W.codeIn K cd25 "law" = true) (k25 : PySem.W.keepIn K (.ref f25) = true)
    (v26 : PySem.W.nsIn K mainGlobals "SMALL" = some (some (Value.str (Str.ofString "abcdefghijklmnopqrstuvwxyz") t26)))
    (v27 : PySem.W.nsIn K mainGlobals "FIGURES" = some (some (Value.str (Str.ofString "0123456789") t27)))
    (z28 : PySem.W.nsIn K mainGlobals "all" = some none)
    (z29 : PySem.W.nsIn K mainGlobals "bool" = some none)
    (z30 : PySem.W.nsIn K mainGlobals "dict" = some none)
    (z31 : PySem.W.nsIn K mainGlobals "int" = some none)
    (z32 : PySem.W.nsIn K mainGlobals "isinstance" = some none)
    (z33 : PySem.W.nsIn K mainGlobals "len" = some none)
    (z34 : PySem.W.nsIn K mainGlobals "list" = some none)
    (z35 : PySem.W.nsIn K mainGlobals "min" = some none)
    (z36 : PySem.W.nsIn K mainGlobals "range" = some none)
    (z37 : PySem.W.nsIn K mainGlobals "str" = some none)
    (z38 : PySem.W.nsIn K mainGlobals "tuple" = some none)
    (z39 : PySem.W.nsIn K mainGlobals "zip" = some none) : Top K mg where
  C_SleepError := C_SleepError
  m_SleepError := PySem.W.mg_of X G xS
  B_SleepError := ⟨xS1, xS2, xS3⟩
  C_BadLetter := C_BadLetter
  m_BadLetter := PySem.W.mg_of X G xB
  E_BadLetter := ⟨⟨⟨nm, q, NB, bs, _, sn, sub, ab, col, dd, w0, w1, w2, w3, w5, xL, (show PySem.HandSPX.refsVE [.type "ValueError", .type "Exception", .type "BaseException", .type "object"] = true from by decide +kernel)⟩, xsa, xe, xt, xk⟩, xga, xgg, xno, xh, exm_self xe xi xt xs⟩
  dig := xd
  a_BadLetter___init__ := f0
  d_BadLetter___init__ := _
  F_BadLetter___init__ := fun_mk l0 c0 k0
  b_BadLetter___init__ := (fun_mk (st := s_BadLetter___init__) l0 c0 k0).binds fun _ _ _ _ _ _ us hl => match us, hl with | [_, _], _ => rfl
  i_BadLetter___init__ := a0
  t_BadLetter___init__ := i0
  a_paper_text := f1
  d_paper_text := _
  F_paper_text := fun_mk l1 c1 k1
  b_paper_text := (fun_mk (st := s_paper_text) l1 c1 k1).binds fun _ _ _ _ _ _ us hl => match us, hl with | [_], _ => rfl
  m_paper_text := PySem.W.mg_of X G a1
  a_member_text := f2
  d_member_text := _
  F_member_text := fun_mk l2 c2 k2
  b_member_text := (fun_mk (st := s_member_text) l2 c2 k2).binds fun _ _ _ _ _ _ us hl => match us, hl with | [_], _ => rfl
  m_member_text := PySem.W.mg_of X G a2
  a_is_word := f3
  d_is_word := _
  F_is_word := fun_mk l3 c3 k3
  b_is_word := (fun_mk (st := s_is_word) l3 c3 k3).binds fun _ _ _ _ _ _ us hl => match us, hl with | [_], _ => rfl
  m_is_word := PySem.W.mg_of X G a3
  a_is_number := f4
  d_is_number := _
  F_is_number := fun_mk l4 c4 k4
  b_is_number := (fun_mk (st := s_is_number) l4 c4 k4).binds fun _ _ _ _ _ _ us hl => match us, hl with | [_], _ => rfl
  m_is_number := PySem.W.mg_of X G a4
  a_line_tokens := f5
  d_line_tokens := _
  F_line_tokens := fun_mk l5 c5 k5
  b_line_tokens := (fun_mk (st := s_line_tokens) l5 c5 k5).binds fun _ _ _ _ _ _ us hl => match us, hl with | [_], _ => rfl
  m_line_tokens := PySem.W.mg_of X G a5
  a_line_of := f6
  d_line_of := _
  F_line_of := fun_mk l6 c6 k6
  b_line_of := (fun_mk (st := s_line_of) l6 c6 k6).binds fun _ _ _ _ _ _ us hl => match us, hl with | [_], _ => rfl
  m_line_of := PySem.W.mg_of X G a6
  a_read_line := f7
  d_read_line := _
  F_read_line := fun_mk l7 c7 k7
  b_read_line := (fun_mk (st := s_read_line) l7 c7 k7).binds fun _ _ _ _ _ _ us hl => match us, hl with | [_, _], _ => rfl
  m_read_line := PySem.W.mg_of X G a7
  a_read_word := f8
  d_read_word := _
  F_read_word := fun_mk l8 c8 k8
  b_read_word := (fun_mk (st := s_read_word) l8 c8 k8).binds fun _ _ _ _ _ _ us hl => match us, hl with | [_, _], _ => rfl
  m_read_word := PySem.W.mg_of X G a8
  a_paper_from := f9
  d_paper_from := _
  F_paper_from := fun_mk l9 c9 k9
  b_paper_from := (fun_mk (st := s_paper_from) l9 c9 k9).binds fun _ _ _ _ _ _ us hl => match us, hl with | [_], _ => rfl
  m_paper_from := PySem.W.mg_of X G a9
  a_law_source := f10
  d_law_source := _
  F_law_source := fun_mk l10 c10 k10
  b_law_source := (fun_mk (st := s_law_source) l10 c10 k10).binds fun _ _ _ _ _ _ us hl => match us, hl with | [_, _], _ => rfl
  m_law_source := PySem.W.mg_of X G a10
  a_law_pick := f11
  d_law_pick := _
  F_law_pick := fun_mk l11 c11 k11
  b_law_pick := (fun_mk (st := s_law_pick) l11 c11 k11).binds fun _ _ _ _ _ _ us hl => match us, hl with | [_, _], _ => rfl
  m_law_pick := PySem.W.mg_of X G a11
  a_law_number := f12
  d_law_number := _
  F_law_number := fun_mk l12 c12 k12
  b_law_number := (fun_mk (st := s_law_number) l12 c12 k12).binds fun _ _ _ _ _ _ us hl => match us, hl with | [_, _], _ => rfl
  m_law_number := PySem.W.mg_of X G a12
  a_law_shuffled := f13
  d_law_shuffled := _
  F_law_shuffled := fun_mk l13 c13 k13
  b_law_shuffled := (fun_mk (st := s_law_shuffled) l13 c13 k13).binds fun _ _ _ _ _ _ us hl => match us, hl with | [_, _], _ => rfl
  m_law_shuffled := PySem.W.mg_of X G a13
  a_law_grammar := f14
  d_law_grammar := _
  F_law_grammar := fun_mk l14 c14 k14
  b_law_grammar := (fun_mk (st := s_law_grammar) l14 c14 k14).binds fun _ _ _ _ _ _ us hl => match us, hl with | [], _ => rfl
  m_law_grammar := PySem.W.mg_of X G a14
  a_law_words := f15
  d_law_words := _
  F_law_words := fun_mk l15 c15 k15
  b_law_words := (fun_mk (st := s_law_words) l15 c15 k15).binds fun _ _ _ _ _ _ us hl => match us, hl with | [_, _], _ => rfl
  m_law_words := PySem.W.mg_of X G a15
  a_law_same := f16
  d_law_same := _
  F_law_same := fun_mk l16 c16 k16
  b_law_same := (fun_mk (st := s_law_same) l16 c16 k16).binds fun _ _ _ _ _ _ us hl => match us, hl with | [_, _], _ => rfl
  m_law_same := PySem.W.mg_of X G a16
  a_law_member := f17
  d_law_member := _
  F_law_member := fun_mk l17 c17 k17
  b_law_member := (fun_mk (st := s_law_member) l17 c17 k17).binds fun _ _ _ _ _ _ us hl => match us, hl with | [_, _], _ => rfl
  m_law_member := PySem.W.mg_of X G a17
  a_law_nest := f18
  d_law_nest := _
  F_law_nest := fun_mk l18 c18 k18
  b_law_nest := (fun_mk (st := s_law_nest) l18 c18 k18).binds fun _ _ _ _ _ _ us hl => match us, hl with | [_, _], _ => rfl
  m_law_nest := PySem.W.mg_of X G a18
  a_law_written := f19
  d_law_written := _
  F_law_written := fun_mk l19 c19 k19
  b_law_written := (fun_mk (st := s_law_written) l19 c19 k19).binds fun _ _ _ _ _ _ us hl => match us, hl with | [_], _ => rfl
  m_law_written := PySem.W.mg_of X G a19
  a_law_word := f20
  d_law_word := _
  F_law_word := fun_mk l20 c20 k20
  b_law_word := (fun_mk (st := s_law_word) l20 c20 k20).binds fun _ _ _ _ _ _ us hl => match us, hl with | [_], _ => rfl
  m_law_word := PySem.W.mg_of X G a20
  a_law_line := f21
  d_law_line := _
  F_law_line := fun_mk l21 c21 k21
  b_law_line := (fun_mk (st := s_law_line) l21 c21 k21).binds fun _ _ _ _ _ _ us hl => match us, hl with | [_], _ => rfl
  m_law_line := PySem.W.mg_of X G a21
  a_law_read := f22
  d_law_read := _
  F_law_read := fun_mk l22 c22 k22
  b_law_read := (fun_mk (st := s_law_read) l22 c22 k22).binds fun _ _ _ _ _ _ us hl => match us, hl with | [_], _ => rfl
  m_law_read := PySem.W.mg_of X G a22
  a_law_told := f23
  d_law_told := _
  F_law_told := fun_mk l23 c23 k23
  b_law_told := (fun_mk (st := s_law_told) l23 c23 k23).binds fun _ _ _ _ _ _ us hl => match us, hl with | [_], _ => rfl
  m_law_told := PySem.W.mg_of X G a23
  a_law_spoilt := f24
  d_law_spoilt := _
  F_law_spoilt := fun_mk l24 c24 k24
  b_law_spoilt := (fun_mk (st := s_law_spoilt) l24 c24 k24).binds fun _ _ _ _ _ _ us hl => match us, hl with | [_, _], _ => rfl
  m_law_spoilt := PySem.W.mg_of X G a24
  a_law := f25
  d_law := _
  F_law := fun_mk l25 c25 k25
  b_law := (fun_mk (st := s_law) l25 c25 k25).binds fun _ _ _ _ _ _ us hl => match us, hl with | [_], _ => rfl
  m_law := PySem.W.mg_of X G a25
  bt_law := fun s v => .of_eq rfl
  t_SMALL := t26
  m_SMALL := PySem.W.mg_of X G v26
  t_FIGURES := t27
  m_FIGURES := PySem.W.mg_of X G v27
  m_all := PySem.W.mg_none_of X G z28
  m_bool := PySem.W.mg_none_of X G z29
  m_dict := PySem.W.mg_none_of X G z30
  m_int := PySem.W.mg_none_of X G z31
  m_isinstance := PySem.W.mg_none_of X G z32
  m_len := PySem.W.mg_none_of X G z33
  m_list := PySem.W.mg_none_of X G z34
  m_min := PySem.W.mg_none_of X G z35
  m_range := PySem.W.mg_none_of X G z36
  m_str := PySem.W.mg_none_of X G z37
  m_tuple := PySem.W.mg_none_of X G z38
  m_zip := PySem.W.mg_none_of X G z39
theorem all_law {l : PySem.W.OpenLaw} {w : World} {K : PySem.W.Frag} {mg : Str → Option Value} {fa : Addr} (hfa : mg "law" = some (.ref fa)) (T : Top K mg) :
    ∃ fd : FuncData, (∀ (s : Shared) (v : Value), BindsTo s fd ⟨[v], []⟩ [("script", v)]) ∧ ∀ base : Heap, K.In base → base.Ns mainGlobals mg → FnOk l.prog w K mg base CX0 17 fa fd ["script"] (spLaw K) := by
  have e := hfa.symm.trans T.m_law
  have e2 : fa = T.a_law := by
    have := Option.some.inj e
    injection this
  subst e2
  exact ⟨T.d_law, T.bt_law, fun base _ _ => ok_law T⟩
end K66W
open PySem PySem.W PyProof.Rows
set_option maxHeartbeats 0 in
theorem PySem.Challenge.cw_tellsasleep_k66_papers_as_text_holds : PySem.Challenge.rw_tellsasleep_k66_papers_as_text.Holds := by
  w_on; o_law; k_head; (case hw => w_witness2)
  k_fill
  refine L2.walk_of (l := PySem.Challenge.rw_tellsasleep_k66_papers_as_text) (n := 63) (k := 17) (x := "script") (CX := fun _ => L2.CX0) (sp := fun w => K66W.spLaw _) rfl (by decide) rfl ⟨rfl, by decide, by decide⟩ (fun w h Y => PySem.W.kIn_of Y) ?F (fun _ _ a ns hl _ hS => ⟨a, ns, rfl, hS, hl, fun _ => rfl⟩) (fun _ _ _ _ _ h => h)
  case F =>
    intro w mg fa h KX G hmg
    refine' K66W.all_law hmg (K66W.top_mk KX G ?xS ?xS1 ?xS2 ?xS3 ?xB ?xL ?xsa ?xga ?xgg ?xno ?xk ?xe ?xt ?xh ?xi ?xs ?xd ?a0 ?i0 ?l0 ?c0 ?k0 ?a1 ?l1 ?c1 ?k1 ?a2 ?l2 ?c2 ?k2 ?a3 ?l3 ?c3 ?k3 ?a4 ?l4 ?c4 ?k4 ?a5 ?l5 ?c5 ?k5 ?a6 ?l6 ?c6 ?k6 ?a7 ?l7 ?c7 ?k7 ?a8 ?l8 ?c8 ?k8 ?a9 ?l9 ?c9 ?k9 ?a10 ?l10 ?c10 ?k10 ?a11 ?l11 ?c11 ?k11 ?a12 ?l12 ?c12 ?k12 ?a13 ?l13 ?c13 ?k13 ?a14 ?l14 ?c14 ?k14 ?a15 ?l15 ?c15 ?k15 ?a16 ?l16 ?c16 ?k16 ?a17 ?l17 ?c17 ?k17 ?a18 ?l18 ?c18 ?k18 ?a19 ?l19 ?c19 ?k19 ?a20 ?l20 ?c20 ?k20 ?a21 ?l21 ?c21 ?k21 ?a22 ?l22 ?c22 ?k22 ?a23 ?l23 ?c23 ?k23 ?a24 ?l24 ?c24 ?k24 ?a25 ?l25 ?c25 ?k25 ?v26 ?v27 ?z28 ?z29 ?z30 ?z31 ?z32 ?z33 ?z34 ?z35 ?z36 ?z37 ?z38 ?z39)
    (case xS => k_is); (case xS1 => k_is); (case xS2 => k_is); (case xS3 => k_is); (case xB => k_is); (case xL => k_is); (case xsa => k_is); (case xga => k_is); (case xgg => k_is); (case xno => k_is); (case xk => k_is); (case xe => k_is); (case xt => k_is); (case xh => k_is); (case xi => k_is); (case xs => k_is); (case xd => k_is); (case a0 => k_is); (case i0 => k_is); (case l0 => k_is); (case c0 => k_is); (case k0 => k_is); (case a1 => k_is); (case l1 => k_is); (case c1 => k_is); (case k1 => k_is); (case a2 => k_is); (case l2 => k_is); (case c2 => k_is); (case k2 => k_is); (case a3 => k_is); (case l3 => k_is); (case c3 => k_is); (case k3 => k_is); (case a4 => k_is); (case l4 => k_is); (case c4 => k_is); (case k4 => k_is); (case a5 => k_is); (case l5 => k_is); (case c5 => k_is); (case k5 => k_is); (case a6 => k_is); (case l6 => k_is); (case c6 => k_is); (case k6 => k_is); (case a7 => k_is); (case l7 => k_is); (case c7 => k_is); (case k7 => k_is); (case a8 => k_is); (case l8 => k_is); (case c8 => k_is); (case k8 => k_is); (case a9 => k_is); (case l9 => k_is); (case c9 => k_is); (case k9 => k_is); (case a10 => k_is); (case l10 => k_is); (case c10 => k_is); (case k10 => k_is); (case a11 => k_is); (case l11 => k_is); (case c11 => k_is); (case k11 => k_is); (case a12 => k_is); (case l12 => k_is); (case c12 => k_is); (case k12 => k_is); (case a13 => k_is); (case l13 => k_is); (case c13 => k_is); (case k13 => k_is); (case a14 => k_is); (case l14 => k_is); (case c14 => k_is); (case k14 => k_is); (case a15 => k_is); (case l15 => k_is); (case c15 => k_is); (case k15 => k_is); (case a16 => k_is); (case l16 => k_is); (case c16 => k_is); (case k16 => k_is); (case a17 => k_is); (case l17 => k_is); (case c17 => k_is); (case k17 => k_is); (case a18 => k_is); (case l18 => k_is); (case c18 => k_is); (case k18 => k_is); (case a19 => k_is); (case l19 => k_is); (case c19 => k_is); (case k19 => k_is); (case a20 => k_is); (case l20 => k_is); (case c20 => k_is); (case k20 => k_is); (case a21 => k_is); (case l21 => k_is); (case c21 => k_is); (case k21 => k_is); (case a22 => k_is); (case l22 => k_is); (case c22 => k_is); (case k22 => k_is); (case a23 => k_is); (case l23 => k_is); (case c23 => k_is); (case k23 => k_is); (case a24 => k_is); (case l24 => k_is); (case c24 => k_is); (case k24 => k_is); (case a25 => k_is); (case l25 => k_is); (case c25 => k_is); (case k25 => k_is); (case v26 => k_is); (case v27 => k_is); (case z28 => k_is); (case z29 => k_is); (case z30 => k_is); (case z31 => k_is); (case z32 => k_is); (case z33 => k_is); (case z34 => k_is); (case z35 => k_is); (case z36 => k_is); (case z37 => k_is); (case z38 => k_is); (case z39 => k_is)
