import PyProof.Rows.All
import HandS.ForMost
import HandS.Defaults
import HandS.Codes
import HandS.Lambda
import HandS.DictComp
import HandS.SetKeys
import HandS.SortInts
import HandS.SortKw
import HandS.Zip
import HandS.TupSets
import HandS.ListItems
import HandS.Conv
import HandS.Walk
import PySem.Challenge.RW_packsworn_k65_whole_shelves_are_whole
import KE.KSortKeyAny
import KE.KLam
import HandS.DictTup
import HandS.SortOrd
import KE.KSortTupAny
import HandS.SetFor
import HandS.Strs
import PyProof.ReprRoads
import PyProof.StrLawsRepr
import HandS.EndTab
import HandS.HeadWalk
import KE.KStateDown
import HandS.Head0
import HandS.Head1
import HandS.Head2
import HandS.HeadEnd
import HandS.HeadHook1
import HandS.HeadHook2
import HandS.HeadHook3
import HandS.HeadHook4
set_option Elab.async false
set_option linter.all false
set_option maxRecDepth 100000
/-! pairs by keys; an order of texts; shelves' numbers -/
namespace Pw
open PySem L2
section kv
variable {α : Type}
def look (kvs : List (Str × α)) (k : Str) : Option α := (kvs.find? fun kv => decide (kv.1 = k)).map (·.2)
def put (kvs : List (Str × α)) (k : Str) (v : α) : List (Str × α) :=
  if (kvs.any fun kv => decide (kv.1 = k)) = true then kvs.map (fun kv => if kv.1 = k then (kv.1, v) else kv) else kvs ++ [(k, v)]
def drp (kvs : List (Str × α)) (k : Str) : List (Str × α) := kvs.filter fun kv => decide (kv.1 ≠ k)
theorem look_nil {k : Str} : look ([] : List (Str × α)) k = none := rfl
theorem look_cons (p : Str × α) (r : List (Str × α)) (k : Str) : look (p :: r) k = if p.1 = k then some p.2 else look r k := by
  unfold look
  by_cases h : p.1 = k
  · simp [List.find?_cons, h]
  · simp [List.find?_cons, h]
theorem look_append (a b : List (Str × α)) (k : Str) : look (a ++ b) k = (look a k).or (look b k) := by
  induction a with
  | nil => simp [look_nil]
  | cons p r ih =>
    rw [List.cons_append, look_cons, look_cons, ih]
    split <;> simp
theorem any_look (kvs : List (Str × α)) (k : Str) : (kvs.any fun kv => decide (kv.1 = k)) = (look kvs k).isSome := by
  induction kvs with
  | nil => rfl
  | cons p r ih =>
    rw [List.any_cons, look_cons, ih]
    by_cases h : p.1 = k <;> simp [h]
theorem put_in {kvs : List (Str × α)} {k : Str} (v : α) (h : (look kvs k).isSome = true) : put kvs k v = kvs.map (fun kv => if kv.1 = k then (kv.1, v) else kv) := by
  unfold put
  rw [any_look, if_pos h]
theorem put_out {kvs : List (Str × α)} {k : Str} (v : α) (h : look kvs k = none) : put kvs k v = kvs ++ [(k, v)] := by
  unfold put
  rw [any_look, h]
  rfl
theorem look_map_if (kvs : List (Str × α)) (k j : Str) (v : α) : look (kvs.map (fun kv => if kv.1 = k then (kv.1, v) else kv)) j = (look kvs j).map fun x => if j = k then v else x := by
  induction kvs with
  | nil => rfl
  | cons p r ih =>
    rw [List.map_cons, look_cons, look_cons, ih]
    by_cases h : p.1 = k
    · rw [if_pos h]
      by_cases h2 : p.1 = j
      · have : j = k := h2.symm.trans h
        simp [h2, this]
      · simp [h2]
    · rw [if_neg h]
      by_cases h2 : p.1 = j
      · have : ¬ j = k := fun e => h (h2.trans e)
        simp [h2, this]
      · simp [h2]
theorem look_put (kvs : List (Str × α)) (k j : Str) (v : α) : look (put kvs k v) j = if j = k then some v else look kvs j := by
  cases h : look kvs k with
  | none =>
    rw [put_out v h, look_append, look_cons, look_nil]
    by_cases e : j = k
    · subst e
      simp [h]
    · have : ¬ k = j := fun q => e q.symm
      simp [e, this]
  | some x =>
    rw [put_in v (by rw [h]; rfl), look_map_if]
    by_cases e : j = k
    · subst e
      simp [h]
    · simp [e]
theorem look_drp (kvs : List (Str × α)) (k j : Str) : look (drp kvs k) j = if j = k then none else look kvs j := by
  induction kvs with
  | nil => simp [drp, look_nil]
  | cons p r ih =>
    unfold drp at ih ⊢
    rw [List.filter_cons]
    by_cases h : p.1 = k
    · rw [if_neg (by simp [h]), ih, look_cons]
      by_cases e : j = k
      · simp [e]
      · have : ¬ p.1 = j := fun q => e (q.symm.trans h)
        simp [e, this]
    · rw [if_pos (by simp [h]), look_cons, ih, look_cons]
      by_cases e : p.1 = j
      · have : ¬ j = k := fun q => h (e.trans q)
        simp [e, this]
      · simp [e]
theorem look_mem {kvs : List (Str × α)} {k : Str} {v : α} (h : look kvs k = some v) : (k, v) ∈ kvs := by
  induction kvs with
  | nil => cases h
  | cons p r ih =>
    rw [look_cons] at h
    by_cases e : p.1 = k
    · rw [if_pos e] at h
      cases h
      rw [← e]
      exact List.mem_cons_self
    · rw [if_neg e] at h
      exact List.mem_cons_of_mem _ (ih h)
theorem look_some_iff {kvs : List (Str × α)} {k : Str} : (look kvs k).isSome = true ↔ k ∈ kvs.map (·.1) := by
  rw [← any_look, List.any_eq_true]
  constructor
  · rintro ⟨p, hp, e⟩
    exact List.mem_map.mpr ⟨p, hp, of_decide_eq_true e⟩
  · intro h
    obtain ⟨p, hp, e⟩ := List.mem_map.mp h
    exact ⟨p, hp, decide_eq_true e⟩
theorem look_none_iff {kvs : List (Str × α)} {k : Str} : look kvs k = none ↔ k ∉ kvs.map (·.1) := by
  rw [← look_some_iff]
  cases look kvs k <;> simp
theorem mem_look {kvs : List (Str × α)} {k : Str} {v : α} (nd : (kvs.map (·.1)).Nodup) (h : (k, v) ∈ kvs) : look kvs k = some v := by
  induction kvs with
  | nil => cases h
  | cons p r ih =>
    rw [List.map_cons, List.nodup_cons] at nd
    rw [look_cons]
    rcases List.mem_cons.mp h with e | h
    · rw [← e]
      simp
    · have : ¬ p.1 = k := fun q => nd.1 (List.mem_map.mpr ⟨(k, v), h, q.symm⟩)
      rw [if_neg this]
      exact ih nd.2 h
theorem keys_map_if (kvs : List (Str × α)) (k : Str) (v : α) : (kvs.map (fun kv => if kv.1 = k then (kv.1, v) else kv)).map (·.1) = kvs.map (·.1) := by
  rw [List.map_map]
  refine List.map_congr_left fun p _ => ?_
  show (if p.1 = k then (p.1, v) else p).1 = p.1
  split <;> rfl
theorem nd_snoc' {l : List Str} {k : Str} (h : l.Nodup) (hk : k ∉ l) : (l ++ [k]).Nodup := by
  rw [List.nodup_append]
  refine ⟨h, by simp, fun a ha b hb => ?_⟩
  rw [List.mem_singleton.mp hb]
  exact fun e => hk (e ▸ ha)
theorem nd_put {kvs : List (Str × α)} (k : Str) (v : α) (nd : (kvs.map (·.1)).Nodup) : ((put kvs k v).map (·.1)).Nodup := by
  cases h : look kvs k with
  | none =>
    rw [put_out v h, List.map_append]
    exact nd_snoc' nd (look_none_iff.mp h)
  | some x =>
    rw [put_in v (by rw [h]; rfl), keys_map_if]
    exact nd
theorem nd_drp {kvs : List (Str × α)} (k : Str) (nd : (kvs.map (·.1)).Nodup) : ((drp kvs k).map (·.1)).Nodup :=
  List.Nodup.sublist (List.Sublist.map _ List.filter_sublist) nd
theorem len_put_le (kvs : List (Str × α)) (k : Str) (v : α) : (put kvs k v).length ≤ kvs.length + 1 := by
  cases h : look kvs k with
  | none =>
    rw [put_out v h]
    simp
  | some x =>
    rw [put_in v (by rw [h]; rfl)]
    simp
theorem len_put_in {kvs : List (Str × α)} {k : Str} (v : α) (h : (look kvs k).isSome = true) : (put kvs k v).length = kvs.length := by
  rw [put_in v h, List.length_map]
theorem len_put_out {kvs : List (Str × α)} {k : Str} (v : α) (h : look kvs k = none) : (put kvs k v).length = kvs.length + 1 := by
  rw [put_out v h]
  simp
theorem len_drp_le (kvs : List (Str × α)) (k : Str) : (drp kvs k).length ≤ kvs.length := List.length_filter_le _ _
theorem drp_out {kvs : List (Str × α)} {k : Str} (h : look kvs k = none) : drp kvs k = kvs := by
  unfold drp
  rw [List.filter_eq_self]
  intro p hp
  refine decide_eq_true fun e => look_none_iff.mp h (List.mem_map.mpr ⟨p, hp, e⟩)
theorem len_drp_in {kvs : List (Str × α)} {k : Str} (nd : (kvs.map (·.1)).Nodup) (h : (look kvs k).isSome = true) : (drp kvs k).length + 1 = kvs.length := by
  induction kvs with
  | nil => cases h
  | cons p r ih =>
    rw [List.map_cons, List.nodup_cons] at nd
    rw [look_cons] at h
    by_cases e : p.1 = k
    · have hn : look r k = none := look_none_iff.mpr (e ▸ nd.1)
      have : drp (p :: r) k = drp r k := by
        unfold drp
        rw [List.filter_cons, if_neg (by simp [e])]
      rw [this, drp_out hn, List.length_cons]
    · rw [if_neg e] at h
      have : drp (p :: r) k = p :: drp r k := by
        unfold drp
        rw [List.filter_cons, if_pos (by simp [e])]
      rw [this, List.length_cons, List.length_cons, ih nd.2 h]
theorem mem_put {kvs : List (Str × α)} {k : Str} {v : α} {q : Str × α} (h : q ∈ put kvs k v) : q = (k, v) ∨ q ∈ kvs := by
  cases e : look kvs k with
  | none =>
    rw [put_out v e] at h
    rcases List.mem_append.mp h with h | h
    · exact .inr h
    · exact .inl (List.mem_singleton.mp h)
  | some x =>
    rw [put_in v (by rw [e]; rfl)] at h
    obtain ⟨p, hp, rfl⟩ := List.mem_map.mp h
    by_cases e2 : p.1 = k
    · rw [if_pos e2, e2]
      exact .inl rfl
    · rw [if_neg e2]
      exact .inr hp
theorem mem_drp {kvs : List (Str × α)} {k : Str} {q : Str × α} (h : q ∈ drp kvs k) : q ∈ kvs := (List.mem_filter.mp h).1
end kv

/-! an order of texts -/
theorem cps_inj {a b : Str} (h : a.cps.toList = b.cps.toList) : a = b := by
  obtain ⟨⟨l⟩⟩ := a
  obtain ⟨⟨m⟩⟩ := b
  have h : l = m := h
  rw [h]
theorem lt_irrefl : ∀ l : List Nat, Spec.ltCps l l = false
  | [] => rfl
  | a :: r => by simp [Spec.ltCps, lt_irrefl r]
theorem lt_asymm : ∀ {l m : List Nat}, Spec.ltCps l m = true → Spec.ltCps m l = false
  | [], [], h => by cases h
  | [], _ :: _, _ => rfl
  | _ :: _, [], h => by cases h
  | a :: r, b :: t, h => by
    simp only [Spec.ltCps, Bool.or_eq_true, Bool.and_eq_true, decide_eq_true_eq, beq_iff_eq] at h
    simp only [Spec.ltCps, Bool.or_eq_false_iff, Bool.and_eq_false_iff, decide_eq_false_iff_not, beq_eq_false_iff_ne]
    rcases h with h | ⟨rfl, h⟩
    · exact ⟨by omega, .inl (by omega)⟩
    · exact ⟨by omega, .inr (lt_asymm h)⟩
theorem lt_trans : ∀ {l m n : List Nat}, Spec.ltCps l m = true → Spec.ltCps m n = true → Spec.ltCps l n = true
  | [], [], _, h, _ => by cases h
  | [], _ :: _, [], _, h => by cases h
  | [], _ :: _, _ :: _, _, _ => rfl
  | _ :: _, [], _, h, _ => by cases h
  | _ :: _, _ :: _, [], _, h => by cases h
  | a :: r, b :: t, c :: u, h, g => by
    simp only [Spec.ltCps, Bool.or_eq_true, Bool.and_eq_true, decide_eq_true_eq, beq_iff_eq] at h g ⊢
    rcases h with h | ⟨rfl, h⟩
    · rcases g with g | ⟨rfl, g⟩
      · exact .inl (by omega)
      · exact .inl h
    · rcases g with g | ⟨rfl, g⟩
      · exact .inl g
      · exact .inr ⟨rfl, lt_trans h g⟩
theorem lt_total : ∀ {l m : List Nat}, Spec.ltCps l m = false → Spec.ltCps m l = false → l = m
  | [], [], _, _ => rfl
  | [], _ :: _, h, _ => by cases h
  | _ :: _, [], _, h => by cases h
  | a :: r, b :: t, h, g => by
    simp only [Spec.ltCps, Bool.or_eq_false_iff, Bool.and_eq_false_iff, decide_eq_false_iff_not, beq_eq_false_iff_ne] at h g
    have e : a = b := by omega
    subst e
    have h1 : Spec.ltCps r t = false := h.2.resolve_left fun z => z rfl
    have h2 : Spec.ltCps t r = false := g.2.resolve_left fun z => z rfl
    rw [lt_total h1 h2]
/-- not greater -/
def leS (a b : Str) : Bool := !Spec.ltCps b.cps.toList a.cps.toList
theorem leS_trans (a b c : Str) (h : leS a b = true) (g : leS b c = true) : leS a c = true := by
  unfold leS at *
  simp only [Bool.not_eq_true'] at *
  cases q : Spec.ltCps c.cps.toList a.cps.toList with
  | false => rfl
  | true =>
    cases z : Spec.ltCps a.cps.toList b.cps.toList with
    | true =>
      rw [lt_trans q z] at g
      cases g
    | false =>
      have e := lt_total z h
      rw [e] at q
      rw [q] at g
      cases g
theorem leS_total (a b : Str) : (leS a b || leS b a) = true := by
  unfold leS
  cases q : Spec.ltCps b.cps.toList a.cps.toList with
  | false => rfl
  | true => rw [lt_asymm q]; rfl
theorem leS_anti {a b : Str} (h : leS a b = true) (g : leS b a = true) : a = b := by
  unfold leS at *
  simp only [Bool.not_eq_true'] at *
  exact cps_inj (lt_total g h)
def sortS (xs : List Str) : List Str := xs.mergeSort leS
theorem risingS_pw : ∀ (xs : List Str) (p : Str), PyProof.Rows.risingS p xs = true → (p :: xs).Pairwise (fun a b => leS a b = true)
  | [], p, _ => by simp
  | x :: r, p, h => by
    have h : (!Spec.ltCps x.cps.toList p.cps.toList && PyProof.Rows.risingS x r) = true := h
    rw [Bool.and_eq_true] at h
    have ih := risingS_pw r x h.2
    refine List.pairwise_cons.mpr ⟨fun y hy => ?_, ih⟩
    rcases List.mem_cons.mp hy with rfl | hy
    · exact h.1
    · exact leS_trans _ x _ h.1 ((List.pairwise_cons.mp ih).1 y hy)
theorem sortedS_pw {xs : List Str} (h : PyProof.Rows.sortedS xs = true) : xs.Pairwise (fun a b => leS a b = true) := by
  cases xs with
  | nil => exact .nil
  | cons x r => exact risingS_pw r x h
theorem sortS_perm (xs : List Str) : (sortS xs).Perm xs := List.mergeSort_perm xs _
theorem sortS_pw (xs : List Str) : (sortS xs).Pairwise (fun a b => leS a b = true) := List.pairwise_mergeSort leS_trans leS_total xs
theorem sortS_of {xs ys : List Str} (h : ys.Perm xs) (s : ys.Pairwise (fun a b => leS a b = true)) : ys = sortS xs :=
  List.Perm.eq_of_pairwise (fun a b _ _ h1 h2 => leS_anti h1 h2) s (sortS_pw xs) (h.trans (sortS_perm xs).symm)
theorem sortS_eq {xs ys : List Str} (h : ys.Perm xs) (s : PyProof.Rows.sortedS ys = true) : ys = sortS xs := sortS_of h (sortedS_pw s)
theorem sortS_congr {xs ys : List Str} (h : ys.Perm xs) : sortS ys = sortS xs := sortS_of ((sortS_perm ys).trans h) (sortS_pw ys)
theorem sortS_nodup {xs : List Str} (h : xs.Nodup) : (sortS xs).Nodup := (sortS_perm xs).nodup_iff.mpr h
theorem sortS_mem {xs : List Str} {x : Str} : x ∈ sortS xs ↔ x ∈ xs := (sortS_perm xs).mem_iff
theorem sortS_len (xs : List Str) : (sortS xs).length = xs.length := (sortS_perm xs).length_eq
/-- numbers -/
def leN (a b : Nat) : Bool := decide (a ≤ b)
def sortN (xs : List Nat) : List Nat := xs.mergeSort leN
theorem sortN_perm (xs : List Nat) : (sortN xs).Perm xs := List.mergeSort_perm xs _
theorem sortN_pw (xs : List Nat) : (sortN xs).Pairwise (· ≤ ·) := by
  have h := List.pairwise_mergeSort (le := leN) (fun a b c h g => decide_eq_true (Nat.le_trans (of_decide_eq_true h) (of_decide_eq_true g))) (fun a b => by
    unfold leN
    rcases Nat.le_total a b with h | h <;> simp [h]) xs
  exact h.imp fun h => of_decide_eq_true h
theorem sortN_of {xs ys : List Nat} (h : ys.Perm xs) (s : ys.Pairwise (· ≤ ·)) : ys = sortN xs :=
  List.Perm.eq_of_pairwise (fun a b _ _ h1 h2 => Nat.le_antisymm h1 h2) s (sortN_pw xs) (h.trans (sortN_perm xs).symm)
end Pw

/-! shelves' numbers; kept; plans of keepings -/
namespace Pw
open PySem L2
def SH : Str := "store/c"
def NEW : Str := "store/new"
def shPath (n : Nat) : Str := SH ++ Str.ofString (toString ((n : Nat) : Int))
theorem shPath_cps (n : Nat) : (shPath n).cps.toList = SH.cps.toList ++ TL.numL n := by
  show (SH.cps ++ (Str.ofString (toString ((n : Nat) : Int))).cps).toList = _
  rw [Array.toList_append, ← TL.tl_num n] <;> rfl
def digB (w : List Nat) : Bool := w.all fun c => decide (48 ≤ c ∧ c ≤ 57)
theorem digB_all {w : List Nat} (h : digB w = true) : NumText.AllDigits w := fun c hc => of_decide_eq_true (List.all_eq_true.mp h c hc)
theorem digB_of {w : List Nat} (h : NumText.AllDigits w) : digB w = true := List.all_eq_true.mpr fun c hc => decide_eq_true (h c hc)
theorem dv_snoc (w : List Nat) (c : Nat) : NumText.digitsVal (w ++ [c]) = NumText.digitsVal w * 10 + (c - 48) := by
  unfold NumText.digitsVal
  rw [List.foldl_append] <;> rfl
theorem snoc_of : ∀ (n : Nat) (w : List Nat), w.length = n + 1 → ∃ v c, w = v ++ [c] ∧ v.length = n := by
  intro n w h
  have hne : w ≠ [] := by
    intro e
    rw [e] at h
    cases h
  exact ⟨w.dropLast, w.getLast hne, (List.dropLast_concat_getLast hne).symm, by rw [List.length_dropLast, h]; rfl⟩
theorem dv_lt : ∀ (n : Nat) (w : List Nat), w.length = n → digB w = true → NumText.digitsVal w < 10 ^ n
  | 0, w, h, _ => by
    have : w = [] := List.eq_nil_of_length_eq_zero h
    rw [this]
    decide
  | n + 1, w, h, hd => by
    obtain ⟨v, c, rfl, hv⟩ := snoc_of n w h
    rw [dv_snoc]
    have h1 : digB v = true := List.all_eq_true.mpr fun x hx => List.all_eq_true.mp hd x (List.mem_append_left _ hx)
    have h2 := of_decide_eq_true (List.all_eq_true.mp hd c (by simp))
    have ih := dv_lt n v hv h1
    rw [Nat.pow_succ]
    omega
theorem canon : ∀ (n : Nat) (w : List Nat), w.length = n + 1 → digB w = true → (w.length ≤ 1 ∨ w.head? ≠ some 48) → TL.numL (NumText.digitsVal w) = w ∧ (w.head? ≠ some 48 → 1 ≤ NumText.digitsVal w)
  | 0, w, h, hd, _ => by
    obtain ⟨v, c, rfl, hv⟩ := snoc_of 0 w h
    have : v = [] := List.eq_nil_of_length_eq_zero hv
    subst this
    have h2 := of_decide_eq_true (List.all_eq_true.mp hd c (by simp))
    have e : NumText.digitsVal ([] ++ [c]) = c - 48 := by
      rw [dv_snoc]
      show 0 * 10 + (c - 48) = _
      omega
    rw [e]
    refine ⟨?_, fun hh => ?_⟩
    · rw [TL.numL_lt (by omega)]
      show [48 + (c - 48)] = [c]
      rw [show 48 + (c - 48) = c by omega]
    · have : c ≠ 48 := fun z => hh (by rw [z] <;> rfl)
      omega
  | n + 1, w, h, hd, hh => by
    obtain ⟨v, c, rfl, hv⟩ := snoc_of (n + 1) w h
    have h1 : digB v = true := List.all_eq_true.mpr fun x hx => List.all_eq_true.mp hd x (List.mem_append_left _ hx)
    have h2 := of_decide_eq_true (List.all_eq_true.mp hd c (by simp))
    have hhd : (v ++ [c]).head? = v.head? := by
      cases v with
      | nil => cases hv
      | cons a r => rfl
    have h3 : v.head? ≠ some 48 := by
      rcases hh with z | z
      · rw [h] at z
        omega
      · rw [hhd] at z
        exact z
    obtain ⟨i1, i2⟩ := canon n v hv h1 (.inr h3)
    have i2 := i2 h3
    rw [dv_snoc]
    refine ⟨?_, fun _ => by omega⟩
    rw [TL.numL_step (by omega)]
    have e1 : (NumText.digitsVal v * 10 + (c - 48)) / 10 = NumText.digitsVal v := by omega
    have e2 : 48 + (NumText.digitsVal v * 10 + (c - 48)) % 10 = c := by omega
    rw [e1, e2, i1]
theorem numL_head : ∀ (m : Nat), (TL.numL m).head? = some 48 → m = 0 := by
  intro m
  induction m using Nat.strongRecOn with
  | _ m ih =>
    intro h
    by_cases hm : m < 10
    · rw [TL.numL_lt hm] at h
      have : 48 + m = 48 := Option.some.inj h
      omega
    · rw [TL.numL_step (by omega)] at h
      have hne := TL.numL_ne (m / 10)
      have : (TL.numL (m / 10)).head? = some 48 := by
        cases q : TL.numL (m / 10) with
        | nil => exact absurd q hne
        | cons a r =>
          rw [q] at h
          exact h
      have := ih (m / 10) (by omega) this
      omega
theorem canon_iff {w : List Nat} (hne : w ≠ []) (hd : digB w = true) : TL.numL (NumText.digitsVal w) = w ↔ (w.length ≤ 1 ∨ w.head? ≠ some 48) := by
  constructor
  · intro e
    by_cases h : w.head? = some 48
    · left
      have h2 := h
      rw [← e] at h2
      have z := numL_head _ h2
      rw [← e, z]
      decide
    · exact .inr h
  · intro h
    cases w with
    | nil => exact absurd rfl hne
    | cons a r => exact (canon r.length (a :: r) rfl hd h).1
def tailW (p : Str) : List Nat := p.cps.toList.drop 7
def shNo (p : Str) : Option Nat :=
  if p.cps.toList.take 7 = SH.cps.toList ∧ tailW p ≠ [] ∧ (tailW p).length ≤ 19 ∧ digB (tailW p) = true ∧ TL.numL (NumText.digitsVal (tailW p)) = tailW p then some (NumText.digitsVal (tailW p)) else none
theorem SH_len : SH.cps.toList.length = 7 := by decide +kernel
theorem big19 {n : Nat} (h : n < 10 ^ 19) : (TL.numL n).length ≤ 19 := TL.numL_len (by decide) h
theorem tailW_path (n : Nat) : tailW (shPath n) = TL.numL n := by
  unfold tailW
  rw [shPath_cps, List.drop_append_of_le_length (by rw [SH_len]; exact Nat.le_refl _), List.drop_of_length_le (by rw [SH_len]; exact Nat.le_refl _)]
  rfl
theorem take_path (n : Nat) : (shPath n).cps.toList.take 7 = SH.cps.toList := by
  rw [shPath_cps, List.take_append_of_le_length (by rw [SH_len]; exact Nat.le_refl _), List.take_of_length_le (by rw [SH_len]; exact Nat.le_refl _)]
theorem shNo_path {n : Nat} (h : n < 10 ^ 19) : shNo (shPath n) = some n := by
  unfold shNo
  rw [if_pos]
  · rw [tailW_path, TL.numL_val]
  · rw [tailW_path, take_path]
    exact ⟨rfl, TL.numL_ne n, big19 h, digB_of (TL.numL_digits n), by rw [TL.numL_val]⟩
theorem shNo_some {p : Str} {n : Nat} (h : shNo p = some n) : p = shPath n ∧ n < 10 ^ 19 := by
  unfold shNo at h
  split at h
  · rename_i c
    obtain ⟨c1, c2, c3, c4, c5⟩ := c
    have e := Option.some.inj h
    subst e
    refine ⟨?_, ?_⟩
    · apply cps_inj
      rw [shPath_cps, c5, ← c1]
      exact (List.take_append_drop 7 _).symm
    · exact Nat.lt_of_lt_of_le (dv_lt _ _ rfl c4) (Nat.pow_le_pow_right (by decide) c3)
  · cases h
theorem shPath_inj {m n : Nat} (h : shPath m = shPath n) : m = n := by
  have e := congrArg tailW h
  rw [tailW_path, tailW_path] at e
  exact TL.numL_inj e
theorem shNo_NEW : shNo NEW = none := by decide +kernel
theorem NEW_ne (n : Nat) : NEW ≠ shPath n := fun e => by
  have h1 : NEW.cps.toList.take 7 = SH.cps.toList := by
    rw [e]
    exact take_path n
  exact absurd h1 (by decide +kernel)

abbrev Fs := List (Str × Str)
def nums (fs : Fs) : List Nat := sortN (fs.filterMap fun kv => shNo kv.1)
theorem mem_nums {fs : Fs} {n : Nat} : n ∈ nums fs ↔ n < 10 ^ 19 ∧ (look fs (shPath n)).isSome = true := by
  unfold nums
  rw [(sortN_perm _).mem_iff, List.mem_filterMap]
  constructor
  · rintro ⟨kv, h1, h2⟩
    obtain ⟨e, hn⟩ := shNo_some h2
    exact ⟨hn, look_some_iff.mpr (List.mem_map.mpr ⟨kv, h1, e⟩)⟩
  · rintro ⟨hn, h⟩
    obtain ⟨kv, h1, h2⟩ := List.mem_map.mp (look_some_iff.mp h)
    exact ⟨kv, h1, by rw [h2]; exact shNo_path hn⟩
theorem nums_nd {fs : Fs} (nd : (fs.map (·.1)).Nodup) : (nums fs).Nodup := by
  unfold nums
  refine (sortN_perm _).nodup_iff.mpr ?_
  show List.Pairwise _ _
  rw [List.pairwise_filterMap]
  have nd : fs.Pairwise (fun a b => a.1 ≠ b.1) := List.pairwise_map.mp nd
  refine nd.imp fun {a b} hab n h1 m h2 e => hab ?_
  rw [(shNo_some h1).1, (shNo_some h2).1, e]
theorem nums_lt {fs : Fs} (nd : (fs.map (·.1)).Nodup) : (nums fs).Pairwise (· < ·) := by
  have h1 : (nums fs).Pairwise (· ≤ ·) := sortN_pw _
  have h2 : (nums fs).Pairwise (· ≠ ·) := nums_nd nd
  refine (List.pairwise_and_iff.mpr ⟨h1, h2⟩).imp fun {a b} h => ?_
  omega
theorem nums_len (fs : Fs) : (nums fs).length ≤ fs.length := by
  unfold nums
  rw [(sortN_perm _).length_eq]
  exact List.length_filterMap_le _ _
theorem nums_congr {fs gs : Fs} (nf : (fs.map (·.1)).Nodup) (ng : (gs.map (·.1)).Nodup) (h : ∀ n, n < 10 ^ 19 → (look fs (shPath n)).isSome = (look gs (shPath n)).isSome) : nums fs = nums gs := by
  refine List.Perm.eq_of_pairwise (le := (· ≤ ·)) (fun a b _ _ h1 h2 => Nat.le_antisymm h1 h2) (sortN_pw _) (sortN_pw _) ?_
  refine (List.perm_ext_iff_of_nodup (nums_nd nf) (nums_nd ng)).mpr fun n => ?_
  rw [mem_nums, mem_nums]
  constructor
  · rintro ⟨a, b⟩
    exact ⟨a, by rw [← h n a]; exact b⟩
  · rintro ⟨a, b⟩
    exact ⟨a, by rw [h n a]; exact b⟩
def shelvesOf (fs : Fs) : List Str := (nums fs).map shPath

/-! the least number that is not there -/
def mexN (ns : List Nat) : Nat := ns.foldl (fun k t => k + (if t = k then 1 else 0)) 0
theorem mex_from : ∀ (ns : List Nat) (k : Nat), ns.Pairwise (· < ·) → (∀ x ∈ ns, k ≤ x) →
    k ≤ ns.foldl (fun k t => k + (if t = k then 1 else 0)) k ∧ (∀ j, k ≤ j → j < ns.foldl (fun k t => k + (if t = k then 1 else 0)) k → j ∈ ns) ∧ ns.foldl (fun k t => k + (if t = k then 1 else 0)) k ∉ ns
  | [], k, _, _ => ⟨Nat.le_refl _, fun j h1 h2 => absurd (Nat.lt_of_le_of_lt h1 h2) (Nat.lt_irrefl _), by simp⟩
  | x :: r, k, hp, hk => by
    obtain ⟨p1, p2⟩ := List.pairwise_cons.mp hp
    have hx := hk x List.mem_cons_self
    rw [List.foldl_cons]
    by_cases e : x = k
    · subst e
      rw [if_pos rfl]
      obtain ⟨i1, i2, i3⟩ := mex_from r (x + 1) p2 (fun y hy => p1 y hy)
      refine ⟨by omega, fun j h1 h2 => ?_, fun hm => ?_⟩
      · by_cases ej : j = x
        · rw [ej]
          exact List.mem_cons_self
        · exact List.mem_cons_of_mem _ (i2 j (by omega) h2)
      · rcases List.mem_cons.mp hm with q | q
        · omega
        · exact i3 q
    · rw [if_neg e]
      obtain ⟨i1, i2, i3⟩ := mex_from r k p2 (fun y hy => by have := p1 y hy; omega)
      rw [Nat.add_zero]
      refine ⟨i1, fun j h1 h2 => List.mem_cons_of_mem _ (i2 j h1 h2), fun hm => ?_⟩
      rcases List.mem_cons.mp hm with q | q
      · have : k ∈ r := i2 k (Nat.le_refl _) (by omega)
        have := p1 k this
        omega
      · exact i3 q
theorem mex_not {ns : List Nat} (h : ns.Pairwise (· < ·)) : mexN ns ∉ ns := (mex_from ns 0 h fun _ _ => Nat.zero_le _).2.2
theorem mex_below {ns : List Nat} (h : ns.Pairwise (· < ·)) {j : Nat} (hj : j < mexN ns) : j ∈ ns := (mex_from ns 0 h fun _ _ => Nat.zero_le _).2.1 j (Nat.zero_le _) hj
theorem mex_le_from : ∀ (ns : List Nat) (k : Nat), ns.foldl (fun k t => k + (if t = k then 1 else 0)) k ≤ k + ns.length
  | [], k => by simp
  | x :: r, k => by
    rw [List.foldl_cons, List.length_cons]
    refine Nat.le_trans (mex_le_from r _) ?_
    split <;> omega
theorem mex_le (ns : List Nat) : mexN ns ≤ ns.length := by
  have := mex_le_from ns 0
  unfold mexN
  omega

/-! what is kept -/
def setdef (acc : Fs) (c p : Str) : Fs := if (look acc c).isSome = true then acc else put acc c p
def cAt (fs : Fs) (p : Str) : Str := (look fs p).getD Str.empty
def foundN (fs : Fs) (ns : List Nat) : Fs := ns.foldl (fun acc n => setdef acc (cAt fs (shPath n)) (shPath n)) []
def found (fs : Fs) : Fs := foundN fs (nums fs)
theorem look_setdef (acc : Fs) (c p j : Str) : (look (setdef acc c p) j).isSome = ((look acc j).isSome || decide (j = c)) := by
  unfold setdef
  split
  · rename_i h
    by_cases e : j = c
    · rw [e, h]
      rfl
    · simp [e]
  · rw [look_put]
    by_cases e : j = c
    · simp [e]
    · simp [e]
theorem nd_setdef {acc : Fs} (c p : Str) (nd : (acc.map (·.1)).Nodup) : ((setdef acc c p).map (·.1)).Nodup := by
  unfold setdef
  split
  · exact nd
  · exact nd_put _ _ nd
theorem len_setdef (acc : Fs) (c p : Str) : (setdef acc c p).length ≤ acc.length + 1 := by
  unfold setdef
  split
  · omega
  · exact len_put_le _ _ _
theorem foundN_snoc (fs : Fs) (ns : List Nat) (n : Nat) : foundN fs (ns ++ [n]) = setdef (foundN fs ns) (cAt fs (shPath n)) (shPath n) := by
  unfold foundN
  rw [List.foldl_append] <;> rfl
theorem fold_has (fs : Fs) (c : Str) : ∀ (ns : List Nat) (acc : Fs), (look (ns.foldl (fun acc n => setdef acc (cAt fs (shPath n)) (shPath n)) acc) c).isSome = true ↔ ((look acc c).isSome = true ∨ ∃ n ∈ ns, cAt fs (shPath n) = c)
  | [], acc => by simp
  | n :: r, acc => by
    rw [List.foldl_cons, fold_has fs c r, look_setdef, Bool.or_eq_true, decide_eq_true_eq]
    constructor
    · rintro ((h | h) | ⟨m, hm, h⟩)
      · exact .inl h
      · exact .inr ⟨n, List.mem_cons_self, h.symm⟩
      · exact .inr ⟨m, List.mem_cons_of_mem _ hm, h⟩
    · rintro (h | ⟨m, hm, h⟩)
      · exact .inl (.inl h)
      · rcases List.mem_cons.mp hm with e | hm
        · subst e
          exact .inl (.inr h.symm)
        · exact .inr ⟨m, hm, h⟩
theorem fold_nd (fs : Fs) : ∀ (ns : List Nat) (acc : Fs), (acc.map (·.1)).Nodup → ((ns.foldl (fun acc n => setdef acc (cAt fs (shPath n)) (shPath n)) acc).map (·.1)).Nodup
  | [], _, h => h
  | n :: r, acc, h => fold_nd fs r _ (nd_setdef _ _ h)
theorem fold_len (fs : Fs) : ∀ (ns : List Nat) (acc : Fs), (ns.foldl (fun acc n => setdef acc (cAt fs (shPath n)) (shPath n)) acc).length ≤ acc.length + ns.length
  | [], acc => by simp
  | n :: r, acc => by
    rw [List.foldl_cons, List.length_cons]
    have h1 := fold_len fs r (setdef acc (cAt fs (shPath n)) (shPath n))
    have h2 := len_setdef acc (cAt fs (shPath n)) (shPath n)
    omega
theorem fold_mem (fs : Fs) : ∀ (ns : List Nat) (acc : Fs) {q : Str × Str}, q ∈ ns.foldl (fun acc n => setdef acc (cAt fs (shPath n)) (shPath n)) acc → q ∈ acc ∨ ∃ n ∈ ns, q = (cAt fs (shPath n), shPath n)
  | [], acc, q, h => .inl h
  | n :: r, acc, q, h => by
    rw [List.foldl_cons] at h
    rcases fold_mem fs r _ h with h | ⟨m, hm, e⟩
    · unfold setdef at h
      split at h
      · exact .inl h
      · rcases mem_put h with e | h
        · exact .inr ⟨n, List.mem_cons_self, e⟩
        · exact .inl h
    · exact .inr ⟨m, List.mem_cons_of_mem _ hm, e⟩
theorem found_nd (fs : Fs) : ((found fs).map (·.1)).Nodup := fold_nd fs _ [] .nil
theorem foundN_nd (fs : Fs) (ns : List Nat) : ((foundN fs ns).map (·.1)).Nodup := fold_nd fs _ [] .nil
theorem foundN_len (fs : Fs) (ns : List Nat) : (foundN fs ns).length ≤ ns.length := by
  have h1 := fold_len fs ns []
  show (ns.foldl _ []).length ≤ _
  have e : ([] : Fs).length = 0 := rfl
  omega
theorem found_len (fs : Fs) : (found fs).length ≤ fs.length := Nat.le_trans (foundN_len fs _) (nums_len fs)
/-- the content stands on a shelf -/
def Has (fs : Fs) (c : Str) : Prop := ∃ n, n < 10 ^ 19 ∧ look fs (shPath n) = some c
theorem found_has {fs : Fs} {c : Str} : (look (found fs) c).isSome = true ↔ Has fs c := by
  have h := fold_has fs c (nums fs) []
  refine h.trans ?_
  constructor
  · rintro (h | ⟨n, hn, h⟩)
    · cases h
    · obtain ⟨h1, h2⟩ := mem_nums.mp hn
      refine ⟨n, h1, ?_⟩
      unfold cAt at h
      cases e : look fs (shPath n) with
      | none =>
        rw [e] at h2
        cases h2
      | some x =>
        rw [e] at h
        exact congrArg some h
  · rintro ⟨n, hn, h⟩
    exact .inr ⟨n, mem_nums.mpr ⟨hn, by rw [h]; rfl⟩, by unfold cAt; rw [h]; rfl⟩
theorem look_tab (f : Str → Str) (l : List Str) (c : Str) : look (l.map fun c => (c, f c)) c = if c ∈ l then some (f c) else none := by
  induction l with
  | nil => simp [look_nil]
  | cons a r ih =>
    rw [List.map_cons, look_cons, ih]
    by_cases e : a = c
    · subst e
      simp
    · have : ¬ c = a := fun z => e z.symm
      simp [e, this]
def inOrd (fs : Fs) : Fs := (sortS (fs.map (·.1))).map fun k => (k, cAt fs k)
theorem look_inOrd (fs : Fs) (k : Str) : look (inOrd fs) k = look fs k := by
  unfold inOrd
  rw [look_tab (fun k => cAt fs k)]
  unfold cAt
  cases h : look fs k with
  | none =>
    rw [if_neg]
    intro hm
    exact look_none_iff.mp h (sortS_mem.mp hm)
  | some x =>
    rw [if_pos (sortS_mem.mpr (look_some_iff.mp (by rw [h]; rfl)))]
    rfl
theorem inOrd_keys (fs : Fs) : (inOrd fs).map (·.1) = sortS (fs.map (·.1)) := by
  unfold inOrd
  rw [List.map_map]
  exact List.map_id'' (fun _ => rfl) _
theorem inOrd_nd {fs : Fs} (nd : (fs.map (·.1)).Nodup) : ((inOrd fs).map (·.1)).Nodup := by
  rw [inOrd_keys]
  exact sortS_nodup nd
theorem inOrd_len (fs : Fs) : (inOrd fs).length = fs.length := by
  unfold inOrd
  rw [List.length_map, sortS_len, List.length_map]
theorem inOrd_mem {fs : Fs} {q : Str × Str} (h : q ∈ inOrd fs) : q ∈ fs := by
  unfold inOrd at h
  obtain ⟨k, hk, rfl⟩ := List.mem_map.mp h
  have h1 := look_some_iff.mpr (sortS_mem.mp hk)
  unfold cAt
  cases e : look fs k with
  | none =>
    rw [e] at h1
    cases h1
  | some x => exact look_mem e
def keptOf (fs : Fs) : Fs := inOrd (found fs)
theorem kept_has {fs : Fs} {c : Str} : (look (keptOf fs) c).isSome = true ↔ Has fs c := by
  unfold keptOf
  rw [look_inOrd]
  exact found_has
theorem kept_not {fs : Fs} {c : Str} : look (keptOf fs) c = none ↔ ¬ Has fs c := by
  rw [← kept_has]
  cases look (keptOf fs) c <;> simp
end Pw

/-! deeds, plans, cuts -/
namespace Pw
open PySem L2
inductive Deed where
  | put (p c : Str)
  | drop (p : Str)
  | move (p q : Str)
def sPut : Str := "put"
def sDrop : Str := "drop"
def sMove : Str := "move"
def Deed.enc : Deed → List Str
  | .put p c => [sPut, p, c]
  | .drop p => [sDrop, p]
  | .move p q => [sMove, p, q]
def doOne (fs : Fs) : Deed → Fs
  | .put p c => put fs p c
  | .drop p => drp fs p
  | .move p q => match look fs p with
    | some x => put (drp fs p) q x
    | none => fs
theorem doOne_none {fs : Fs} {p q : Str} (h : look fs p = none) : doOne fs (.move p q) = fs := by
  show (match look fs p with | some x => put (drp fs p) q x | none => fs) = _
  rw [h]
theorem doOne_some {fs : Fs} {p q x : Str} (h : look fs p = some x) : doOne fs (.move p q) = put (drp fs p) q x := by
  show (match look fs p with | some x => put (drp fs p) q x | none => fs) = _
  rw [h]
def doAll (fs : Fs) (ds : List Deed) : Fs := ds.foldl doOne fs
theorem doAll_nil (fs : Fs) : doAll fs [] = fs := rfl
theorem doAll_cons (fs : Fs) (d : Deed) (ds : List Deed) : doAll fs (d :: ds) = doAll (doOne fs d) ds := rfl
theorem doAll_app (fs : Fs) (a b : List Deed) : doAll fs (a ++ b) = doAll (doAll fs a) b := List.foldl_append
theorem doAll_snoc (fs : Fs) (a : List Deed) (d : Deed) : doAll fs (a ++ [d]) = doOne (doAll fs a) d := by
  rw [doAll_app]
  rfl
theorem doOne_nd {fs : Fs} (d : Deed) (nd : (fs.map (·.1)).Nodup) : ((doOne fs d).map (·.1)).Nodup := by
  cases d with
  | put p c => exact nd_put _ _ nd
  | drop p => exact nd_drp _ nd
  | move p q =>
    cases h : look fs p with
    | none =>
      rw [doOne_none h]
      exact nd
    | some x =>
      rw [doOne_some h]
      exact nd_put _ _ (nd_drp _ nd)
theorem doAll_nd : ∀ (ds : List Deed) {fs : Fs}, (fs.map (·.1)).Nodup → ((doAll fs ds).map (·.1)).Nodup
  | [], _, h => h
  | d :: ds, _, h => doAll_nd ds (doOne_nd d h)
def newDeeds (x : Nat × Str) : List Deed := [.put NEW x.2, .move NEW (shPath x.1)]
def deedsOf (pl : List (Nat × Str)) : List Deed := pl.flatMap newDeeds
theorem deedsOf_cons (x : Nat × Str) (pl : List (Nat × Str)) : deedsOf (x :: pl) = .put NEW x.2 :: .move NEW (shPath x.1) :: deedsOf pl := rfl
theorem deedsOf_app (a b : List (Nat × Str)) : deedsOf (a ++ b) = deedsOf a ++ deedsOf b := List.flatMap_append
theorem deedsOf_len (pl : List (Nat × Str)) : (deedsOf pl).length = 2 * pl.length := by
  induction pl with
  | nil => rfl
  | cons x r ih =>
    rw [deedsOf_cons, List.length_cons, List.length_cons, List.length_cons, ih]
    omega
/-- the files behind one more shelf -/
def laid (fs : Fs) (x : Nat × Str) : Fs := put (drp (put fs NEW x.2) NEW) (shPath x.1) x.2
theorem doAll_new (fs : Fs) (x : Nat × Str) : doAll fs (newDeeds x) = laid fs x := by
  show doOne (put fs NEW x.2) (.move NEW (shPath x.1)) = _
  rw [doOne_some (x := x.2) (by rw [look_put, if_pos rfl])]
  rfl
theorem doAll_deeds_cons (fs : Fs) (x : Nat × Str) (pl : List (Nat × Str)) : doAll fs (deedsOf (x :: pl)) = doAll (laid fs x) (deedsOf pl) := by
  have e : deedsOf (x :: pl) = newDeeds x ++ deedsOf pl := rfl
  rw [e, doAll_app, doAll_new]
theorem look_laid (fs : Fs) (x : Nat × Str) (j : Str) : look (laid fs x) j = if j = shPath x.1 then some x.2 else if j = NEW then none else look fs j := by
  unfold laid
  rw [look_put, look_drp, look_put]
  by_cases h : j = shPath x.1
  · simp [h]
  · by_cases h2 : j = NEW <;> simp [h, h2]
theorem laid_nd {fs : Fs} (x : Nat × Str) (nd : (fs.map (·.1)).Nodup) : ((laid fs x).map (·.1)).Nodup := nd_put _ _ (nd_drp _ (nd_put _ _ nd))
theorem drp_put_len {fs : Fs} (c : Str) (nd : (fs.map (·.1)).Nodup) : (drp (put fs NEW c) NEW).length ≤ fs.length := by
  have h1 := len_drp_in (kvs := put fs NEW c) (k := NEW) (nd_put _ _ nd) (by rw [look_put, if_pos rfl]; rfl)
  have h2 := len_put_le fs NEW c
  omega
theorem laid_len {fs : Fs} (x : Nat × Str) (nd : (fs.map (·.1)).Nodup) : (laid fs x).length ≤ fs.length + 1 := by
  have h1 := drp_put_len x.2 nd
  have h2 := len_put_le (drp (put fs NEW x.2) NEW) (shPath x.1) x.2
  unfold laid
  omega

/-! texts of a size -/
def Gd (k : Nat) (s : Str) : Prop := s.length ≤ k ∧ ∀ c ∈ s.cps.toList, c < 128
theorem Gd.mono {j k : Nat} {s : Str} (h : Gd j s) (hk : j ≤ k) : Gd k s := ⟨Nat.le_trans h.1 hk, h.2⟩
structure FOk (N : Nat) (fs : Fs) : Prop where
  nd : (fs.map (·.1)).Nodup
  len : fs.length ≤ N
  gd : ∀ q ∈ fs, Gd 26 q.1 ∧ Gd 1000 q.2
theorem FOk.mono {N M : Nat} {fs : Fs} (h : FOk N fs) (hk : N ≤ M) : FOk M fs := ⟨h.nd, Nat.le_trans h.len hk, h.gd⟩
theorem FOk.put {N : Nat} {fs : Fs} {p c : Str} (h : FOk N fs) (hp : Gd 26 p) (hc : Gd 1000 c) : FOk (N + 1) (Pw.put fs p c) :=
  ⟨nd_put _ _ h.nd, Nat.le_trans (len_put_le _ _ _) (Nat.succ_le_succ h.len), fun q hq => by
    rcases mem_put hq with e | hq
    · rw [e]
      exact ⟨hp, hc⟩
    · exact h.gd q hq⟩
theorem FOk.drp {N : Nat} {fs : Fs} (h : FOk N fs) (p : Str) : FOk N (Pw.drp fs p) :=
  ⟨nd_drp _ h.nd, Nat.le_trans (len_drp_le _ _) h.len, fun q hq => h.gd q (mem_drp hq)⟩
theorem FOk.inOrd {N : Nat} {fs : Fs} (h : FOk N fs) : FOk N (Pw.inOrd fs) :=
  ⟨inOrd_nd h.nd, by rw [inOrd_len]; exact h.len, fun q hq => h.gd q (inOrd_mem hq)⟩
theorem FOk.at_ {N : Nat} {fs : Fs} (h : FOk N fs) {p c : Str} (e : look fs p = some c) : Gd 26 p ∧ Gd 1000 c := h.gd (p, c) (look_mem e)
theorem gd_NEW : Gd 26 NEW := ⟨by decide +kernel, by decide +kernel⟩
theorem str_len (s : Str) : s.length = s.cps.toList.length := by
  show s.cps.size = _
  rw [Array.length_toList]
theorem shPath_len (n : Nat) : (shPath n).length = 7 + (TL.numL n).length := by
  rw [str_len, shPath_cps, List.length_append, SH_len]
theorem gd_path {n : Nat} (h : n < 10 ^ 19) : Gd 26 (shPath n) := by
  refine ⟨?_, fun c hc => ?_⟩
  · rw [shPath_len]
    have := big19 h
    omega
  · rw [shPath_cps] at hc
    rcases List.mem_append.mp hc with hc | hc
    · exact (show ∀ c ∈ SH.cps.toList, c < 128 by decide +kernel) c hc
    · have := TL.numL_digits n c hc
      omega
theorem FOk.laid {N : Nat} {fs : Fs} {x : Nat × Str} (h : FOk N fs) (hn : x.1 < 10 ^ 19) (hc : Gd 1000 x.2) : FOk (N + 1) (Pw.laid fs x) :=
  ⟨laid_nd x h.nd, Nat.le_trans (laid_len x h.nd) (Nat.succ_le_succ h.len), ((((h.put gd_NEW hc).drp NEW).put (gd_path hn) hc).gd)⟩

/-! the plan of a keeping -/
open Classical in
noncomputable def plan : Fs → List Str → List (Nat × Str)
  | _, [] => []
  | fs, c :: cs => if (look (keptOf fs) c).isSome = true then plan fs cs else (mexN (nums fs), c) :: plan (laid fs (mexN (nums fs), c)) cs
theorem plan_in {fs : Fs} {c : Str} {cs : List Str} (h : (look (keptOf fs) c).isSome = true) : plan fs (c :: cs) = plan fs cs := by
  rw [plan, if_pos h]
theorem plan_out {fs : Fs} {c : Str} {cs : List Str} (h : look (keptOf fs) c = none) : plan fs (c :: cs) = (mexN (nums fs), c) :: plan (laid fs (mexN (nums fs), c)) cs := by
  rw [plan, if_neg (by rw [h]; exact Bool.false_ne_true)]
theorem plan_app : ∀ (a b : List Str) (fs : Fs), plan fs (a ++ b) = plan fs a ++ plan (doAll fs (deedsOf (plan fs a))) b
  | [], b, fs => by rw [List.nil_append]; unfold plan; rfl
  | c :: a, b, fs => by
    rw [List.cons_append]
    cases h : look (keptOf fs) c with
    | none => rw [plan_out h, plan_out h, plan_app a b, List.cons_append, doAll_deeds_cons]
    | some x =>
      have h : (look (keptOf fs) c).isSome = true := by rw [h] <;> rfl
      rw [plan_in h, plan_in h, plan_app a b]
theorem plan_len : ∀ (cs : List Str) (fs : Fs), (plan fs cs).length ≤ cs.length
  | [], fs => by unfold plan; exact Nat.le_refl _
  | c :: cs, fs => by
    cases h : look (keptOf fs) c with
    | none =>
      rw [plan_out h, List.length_cons, List.length_cons]
      exact Nat.succ_le_succ (plan_len cs _)
    | some x =>
      rw [plan_in (by rw [h]; rfl), List.length_cons]
      exact Nat.le_succ_of_le (plan_len cs _)
theorem mex_lt {N : Nat} {fs : Fs} (h : FOk N fs) (hN : N ≤ 1000) : mexN (nums fs) < 10 ^ 19 := by
  have h1 := mex_le (nums fs)
  have h2 := nums_len fs
  have h3 := h.len
  omega
theorem mex_free {fs : Fs} (nd : (fs.map (·.1)).Nodup) (h : mexN (nums fs) < 10 ^ 19) : look fs (shPath (mexN (nums fs))) = none := by
  cases e : look fs (shPath (mexN (nums fs))) with
  | none => rfl
  | some x => exact absurd (mem_nums.mpr ⟨h, by rw [e]; rfl⟩) (mex_not (nums_lt nd))
/-- gs holds what fs holds, and the shelves of pl, but for store/new -/
structure Ext (fs : Fs) (pl : List (Nat × Str)) (gs : Fs) : Prop where
  old : ∀ p, p ≠ NEW → (∀ x ∈ pl, p ≠ shPath x.1) → look gs p = look fs p
  new : ∀ x ∈ pl, look gs (shPath x.1) = some x.2
theorem Ext.nil (fs : Fs) : Ext fs [] fs := ⟨fun _ _ _ => rfl, fun _ h => by cases h⟩
theorem Ext.cons {fs gs : Fs} {x : Nat × Str} {pl : List (Nat × Str)} (e : Ext (laid fs x) pl gs) (nd : ∀ y ∈ pl, y.1 ≠ x.1) : Ext fs (x :: pl) gs := by
  refine ⟨fun p h1 h2 => ?_, fun y hy => ?_⟩
  · rw [e.old p h1 fun y hy => h2 y (List.mem_cons_of_mem _ hy), look_laid, if_neg (h2 x List.mem_cons_self), if_neg h1]
  · rcases List.mem_cons.mp hy with rfl | hy
    · rw [e.old _ (fun z => NEW_ne _ z.symm) fun z hz q => nd z hz (shPath_inj q).symm, look_laid, if_pos rfl]
    · exact e.new y hy
theorem Ext.same {fs gs hs : Fs} {pl : List (Nat × Str)} (e : Ext fs pl gs) (h : ∀ p, p ≠ NEW → look hs p = look gs p) : Ext fs pl hs :=
  ⟨fun p h1 h2 => (h p h1).trans (e.old p h1 h2), fun x hx => (h _ fun z => NEW_ne _ z.symm).trans (e.new x hx)⟩
theorem Ext.app {fs gs hs : Fs} {a b : List (Nat × Str)} (e : Ext fs a gs) (f : Ext gs b hs) (nd : ∀ x ∈ a, ∀ y ∈ b, x.1 ≠ y.1) : Ext fs (a ++ b) hs := by
  refine ⟨fun p h1 h2 => ?_, fun x hx => ?_⟩
  · rw [f.old p h1 fun y hy => h2 y (List.mem_append_right _ hy), e.old p h1 fun y hy => h2 y (List.mem_append_left _ hy)]
  · rcases List.mem_append.mp hx with hx | hx
    · rw [f.old _ (fun z => NEW_ne _ z.symm) fun y hy q => nd x hx y hy (shPath_inj q), e.new x hx]
    · exact f.new x hx
theorem has_laid {fs : Fs} {x : Nat × Str} (hn : x.1 < 10 ^ 19) (hf : look fs (shPath x.1) = none) (c : Str) : Has (laid fs x) c ↔ c = x.2 ∨ Has fs c := by
  constructor
  · rintro ⟨n, h1, h2⟩
    rw [look_laid] at h2
    split at h2
    · exact .inl (Option.some.inj h2).symm
    · split at h2
      · cases h2
      · exact .inr ⟨n, h1, h2⟩
  · rintro (rfl | ⟨n, h1, h2⟩)
    · exact ⟨x.1, hn, by rw [look_laid, if_pos rfl]⟩
    · refine ⟨n, h1, ?_⟩
      rw [look_laid, if_neg, if_neg]
      · exact h2
      · exact fun z => NEW_ne _ z.symm
      · intro z
        rw [z, hf] at h2
        cases h2
/-- what a plan is -/
structure Plan (fs : Fs) (cs : List Str) (pl : List (Nat × Str)) : Prop where
  nn : (pl.map (·.1)).Nodup
  nc : (pl.map (·.2)).Nodup
  lt : ∀ x ∈ pl, x.1 < 10 ^ 19
  free : ∀ x ∈ pl, look fs (shPath x.1) = none
  mem : ∀ x ∈ pl, x.2 ∈ cs
  fresh : ∀ x ∈ pl, ¬ Has fs x.2
theorem plan_is : ∀ (cs : List Str) {N : Nat} {fs : Fs}, FOk N fs → (∀ c ∈ cs, Gd 1000 c) → N + cs.length ≤ 1000 →
    Plan fs cs (plan fs cs) ∧ FOk (N + (plan fs cs).length) (doAll fs (deedsOf (plan fs cs))) ∧ Ext fs (plan fs cs) (doAll fs (deedsOf (plan fs cs))) ∧ ∀ c ∈ cs, Has (doAll fs (deedsOf (plan fs cs))) c
  | [], N, fs, h, _, _ => by
    unfold plan
    refine ⟨⟨.nil, .nil, ?_, ?_, ?_, ?_⟩, h, Ext.nil fs, ?_⟩ <;> (intro x hx; cases hx)
  | c :: cs, N, fs, h, hg, hN => by
    have hg' : ∀ c ∈ cs, Gd 1000 c := fun d hd => hg d (List.mem_cons_of_mem _ hd)
    rw [List.length_cons] at hN
    cases e : look (keptOf fs) c with
    | some x =>
      have e1 : (look (keptOf fs) c).isSome = true := by rw [e] <;> rfl
      rw [plan_in e1]
      obtain ⟨p, f, x, a⟩ := plan_is cs h hg' (by omega)
      refine ⟨⟨p.nn, p.nc, p.lt, p.free, fun x hx => List.mem_cons_of_mem _ (p.mem x hx), p.fresh⟩, f, x, fun d hd => ?_⟩
      rcases List.mem_cons.mp hd with rfl | hd
      · obtain ⟨n, h1, h2⟩ := kept_has.mp e1
        refine ⟨n, h1, ?_⟩
        rw [x.old _ (fun z => NEW_ne _ z.symm) fun y hy z => ?_]
        · exact h2
        · rw [z, p.free y hy] at h2
          cases h2
      · exact a d hd
    | none =>
      have hlt := mex_lt h (by omega)
      have hfree := mex_free h.nd hlt
      have hc : Gd 1000 c := hg c List.mem_cons_self
      have hl : FOk (N + 1) (laid fs (mexN (nums fs), c)) := h.laid hlt hc
      obtain ⟨p, f, x, a⟩ := plan_is cs hl hg' (by omega)
      rw [plan_out e, doAll_deeds_cons]
      have hl' : ∀ j, Has (laid fs (mexN (nums fs), c)) j ↔ j = c ∨ Has fs j := has_laid (x := (mexN (nums fs), c)) hlt hfree
      have hne : ∀ y ∈ plan (laid fs (mexN (nums fs), c)) cs, y.1 ≠ mexN (nums fs) := fun y hy z => by
        have := p.free y hy
        rw [look_laid, z, if_pos rfl] at this
        cases this
      have hfr : ∀ y ∈ plan (laid fs (mexN (nums fs), c)) cs, look fs (shPath y.1) = none := fun y hy => by
        have := p.free y hy
        rw [look_laid, if_neg (fun z => hne y hy (shPath_inj z)), if_neg (fun z => NEW_ne _ z.symm)] at this
        exact this
      have hfs : ∀ y ∈ plan (laid fs (mexN (nums fs), c)) cs, y.2 ≠ c ∧ ¬ Has fs y.2 := fun y hy => by
        have := p.fresh y hy
        rw [hl'] at this
        exact ⟨fun z => this (.inl z), fun z => this (.inr z)⟩
      refine ⟨⟨?_, ?_, ?_, ?_, ?_, ?_⟩, ?_, x.cons hne, ?_⟩
      · rw [List.map_cons, List.nodup_cons]
        refine ⟨fun hm => ?_, p.nn⟩
        obtain ⟨y, hy, z⟩ := List.mem_map.mp hm
        exact hne y hy z
      · rw [List.map_cons, List.nodup_cons]
        refine ⟨fun hm => ?_, p.nc⟩
        obtain ⟨y, hy, z⟩ := List.mem_map.mp hm
        exact (hfs y hy).1 z
      · intro y hy
        rcases List.mem_cons.mp hy with rfl | hy
        · exact hlt
        · exact p.lt y hy
      · intro y hy
        rcases List.mem_cons.mp hy with rfl | hy
        · exact hfree
        · exact hfr y hy
      · intro y hy
        rcases List.mem_cons.mp hy with rfl | hy
        · exact List.mem_cons_self
        · exact List.mem_cons_of_mem _ (p.mem y hy)
      · intro y hy
        rcases List.mem_cons.mp hy with rfl | hy
        · exact kept_not.mp e
        · exact (hfs y hy).2
      · rw [List.length_cons]
        exact f.mono (by omega)
      · intro d hd
        rcases List.mem_cons.mp hd with rfl | hd
        · have : Has (laid fs (mexN (nums fs), d)) d := (hl' d).mpr (.inl rfl)
          obtain ⟨n, h1, h2⟩ := this
          refine ⟨n, h1, ?_⟩
          rw [x.old _ (fun z => NEW_ne _ z.symm) fun y hy z => ?_]
          · exact h2
          · rw [z, p.free y hy] at h2
            cases h2
        · exact a d hd
end Pw

/-! cuts of keepings and unshelvings -/
namespace Pw
open PySem L2
theorem cutS_to (z : Str) (k : Nat) : (cutS z none (some (k : Int))).cps.toList = z.cps.toList.take k := by
  unfold cutS
  rw [HT.sIx_none, HT.sIx_nat]
  show (z.cps.toList.drop 0).take (min k z.length - 0) = _
  rw [List.drop_zero, Nat.sub_zero, str_len, Nat.min_comm, ← List.take_take, List.take_of_length_le (by rw [List.length_take]; omega)]
theorem cutS_from (z : Str) (k : Nat) : (cutS z (some (k : Int)) none).cps.toList = z.cps.toList.drop k := by
  unfold cutS
  rw [HT.sIx_none, HT.sIx_nat]
  show (z.cps.toList.drop (min k z.length)).take (z.length - min k z.length) = _
  rw [List.take_of_length_le (by rw [List.length_drop, ← str_len]; exact Nat.le_refl _), str_len]
  rcases Nat.le_total k z.cps.toList.length with h | h
  · rw [Nat.min_eq_left h]
  · rw [Nat.min_eq_right h, List.drop_of_length_le h, List.drop_of_length_le (Nat.le_refl _)]
def takeS (k : Nat) (c : Str) : Str := cutS c none (some (k : Int))
theorem gd_takeS {m k : Nat} {c : Str} (h : Gd m c) : Gd m (takeS k c) := by
  refine ⟨?_, fun x hx => h.2 x ?_⟩
  · rw [str_len]
    unfold takeS
    rw [cutS_to, List.length_take, ← str_len]
    exact Nat.le_trans (Nat.min_le_right _ _) h.1
  · unfold takeS at hx
    rw [cutS_to] at hx
    exact List.mem_of_mem_take hx
def signsOf (ds : List Deed) (m : Nat) : List (Option Nat) := match ds[m]? with
  | some (.put _ c) => none :: (List.range c.length).map some
  | _ => [none]
def cutOf (fs : Fs) (ds : List Deed) (m : Nat) (s : Option Nat) : Fs := match s, ds[m]? with
  | some k, some (.put p c) => inOrd (put (inOrd (doAll fs (ds.take m))) p (takeS k c))
  | _, _ => inOrd (inOrd (doAll fs (ds.take m)))
def allCuts (fs : Fs) (ds : List Deed) : List Fs := (List.range (ds.length + 1)).flatMap fun m => (signsOf ds m).map fun s => cutOf fs ds m s
theorem cutOf_cases (fs : Fs) (ds : List Deed) (m : Nat) (s : Option Nat) : cutOf fs ds m s = inOrd (inOrd (doAll fs (ds.take m))) ∨ ∃ k p c, .put p c ∈ ds ∧ cutOf fs ds m s = inOrd (put (inOrd (doAll fs (ds.take m))) p (takeS k c)) := by
  cases s with
  | none => exact .inl rfl
  | some k =>
    cases e : ds[m]? with
    | none =>
      left
      unfold cutOf
      rw [e]
    | some d =>
      cases d with
      | put p c =>
        right
        refine ⟨k, p, c, List.mem_of_getElem? e, ?_⟩
        unfold cutOf
        rw [e]
      | drop p =>
        left
        unfold cutOf
        rw [e]
      | move p q =>
        left
        unfold cutOf
        rw [e]
theorem mem_allCuts {fs : Fs} {ds : List Deed} {gs : Fs} (h : gs ∈ allCuts fs ds) : ∃ m, gs = inOrd (inOrd (doAll fs (ds.take m))) ∨ ∃ k p c, .put p c ∈ ds ∧ gs = inOrd (put (inOrd (doAll fs (ds.take m))) p (takeS k c)) := by
  obtain ⟨m, _, h⟩ := List.mem_flatMap.mp h
  obtain ⟨s, _, rfl⟩ := List.mem_map.mp h
  exact ⟨m, cutOf_cases fs ds m s⟩
theorem ext_of : ∀ (pl : List (Nat × Str)) (fs : Fs), (pl.map (·.1)).Nodup → Ext fs pl (doAll fs (deedsOf pl))
  | [], fs, _ => Ext.nil fs
  | x :: pl, fs, nd => by
    rw [List.map_cons, List.nodup_cons] at nd
    rw [doAll_deeds_cons]
    exact (ext_of pl _ nd.2).cons fun y hy e => nd.1 (List.mem_map.mpr ⟨y, hy, e⟩)
theorem fok_of : ∀ (pl : List (Nat × Str)) {N : Nat} {fs : Fs}, FOk N fs → (∀ x ∈ pl, x.1 < 10 ^ 19 ∧ Gd 1000 x.2) → FOk (N + pl.length) (doAll fs (deedsOf pl))
  | [], _, _, h, _ => h
  | x :: pl, N, fs, h, g => by
    rw [doAll_deeds_cons]
    have h1 := g x List.mem_cons_self
    exact (fok_of pl (h.laid h1.1 h1.2) fun y hy => g y (List.mem_cons_of_mem _ hy)).mono (by rw [List.length_cons]; omega)
theorem take_deeds : ∀ (pl : List (Nat × Str)) (m : Nat), ∃ j, ((deedsOf pl).take m = deedsOf (pl.take j) ∨ ∃ x ∈ pl, (deedsOf pl).take m = deedsOf (pl.take j) ++ [.put NEW x.2])
  | [], m => ⟨0, .inl (by simp [deedsOf])⟩
  | x :: pl, 0 => ⟨0, .inl rfl⟩
  | x :: pl, 1 => ⟨0, .inr ⟨x, List.mem_cons_self, rfl⟩⟩
  | x :: pl, m + 2 => by
    obtain ⟨j, h⟩ := take_deeds pl m
    refine ⟨j + 1, ?_⟩
    have e1 : (deedsOf (x :: pl)).take (m + 2) = newDeeds x ++ (deedsOf pl).take m := rfl
    have e2 : (x :: pl).take (j + 1) = x :: pl.take j := rfl
    rw [e1, e2]
    rcases h with h | ⟨y, hy, h⟩
    · left
      rw [h]
      rfl
    · right
      refine ⟨y, List.mem_cons_of_mem _ hy, ?_⟩
      rw [h]
      rfl
theorem put_deeds {pl : List (Nat × Str)} {p c : Str} (h : Deed.put p c ∈ deedsOf pl) : p = NEW ∧ ∃ x ∈ pl, c = x.2 := by
  obtain ⟨x, hx, h⟩ := List.mem_flatMap.mp h
  unfold newDeeds at h
  rcases List.mem_cons.mp h with e | h
  · cases e
    exact ⟨rfl, x, hx, rfl⟩
  · rcases List.mem_cons.mp h with e | h
    · cases e
    · cases h
/-- what a cut of a keeping may leave -/
def CutOk (fs gs : Fs) (cs : List Str) : Prop := ∃ pl : List (Nat × Str), (pl.map (·.1)).Nodup ∧ (pl.map (·.2)).Nodup ∧ (∀ x ∈ pl, x.1 < 10 ^ 19 ∧ look fs (shPath x.1) = none ∧ x.2 ∈ cs) ∧ Ext fs pl gs
theorem cut_is {N : Nat} {fs gs : Fs} {cs : List Str} {pl : List (Nat × Str)} (h : FOk N fs) (P : Plan fs cs pl) (hg : ∀ c ∈ cs, Gd 1000 c) (hm : gs ∈ allCuts fs (deedsOf pl)) :
    FOk (N + pl.length + 2) gs ∧ ∃ j, Ext fs (pl.take j) gs := by
  have g : ∀ x ∈ pl, x.1 < 10 ^ 19 ∧ Gd 1000 x.2 := fun x hx => ⟨P.lt x hx, hg _ (P.mem x hx)⟩
  obtain ⟨m, hm⟩ := mem_allCuts hm
  obtain ⟨j, hj⟩ := take_deeds pl m
  have gj : ∀ x ∈ pl.take j, x.1 < 10 ^ 19 ∧ Gd 1000 x.2 := fun x hx => g x (List.mem_of_mem_take hx)
  have f0 := (fok_of (pl.take j) h gj).mono (show N + (pl.take j).length ≤ N + pl.length by rw [List.length_take]; omega)
  have x0 : Ext fs (pl.take j) (doAll fs (deedsOf (pl.take j))) := ext_of _ _ (P.nn.sublist ((List.take_sublist j pl).map _))
  have base : FOk (N + pl.length + 1) (doAll fs ((deedsOf pl).take m)) ∧ ∀ p, p ≠ NEW → look (doAll fs ((deedsOf pl).take m)) p = look (doAll fs (deedsOf (pl.take j))) p := by
    rcases hj with e | ⟨x, hx, e⟩
    · rw [e]
      exact ⟨f0.mono (by omega), fun _ _ => rfl⟩
    · rw [e, doAll_snoc]
      refine ⟨f0.put gd_NEW (g x hx).2, fun p hp => ?_⟩
      show look (put _ NEW x.2) p = _
      rw [look_put, if_neg hp]
  rcases hm with e | ⟨k, p, c, hpc, e⟩
  · subst e
    refine ⟨base.1.inOrd.inOrd.mono (by omega), j, x0.same fun p hp => ?_⟩
    rw [look_inOrd, look_inOrd, base.2 p hp]
  · obtain ⟨rfl, x, hx, rfl⟩ := put_deeds hpc
    subst e
    refine ⟨(base.1.inOrd.put gd_NEW (gd_takeS (g x hx).2)).inOrd, j, x0.same fun p hp => ?_⟩
    rw [look_inOrd, look_put, if_neg hp, look_inOrd, base.2 p hp]
theorem cut_ok {N : Nat} {fs gs : Fs} {cs : List Str} {pl : List (Nat × Str)} (h : FOk N fs) (P : Plan fs cs pl) (hg : ∀ c ∈ cs, Gd 1000 c) (hm : gs ∈ allCuts fs (deedsOf pl)) : CutOk fs gs cs := by
  obtain ⟨_, j, x⟩ := cut_is h P hg hm
  exact ⟨pl.take j, P.nn.sublist ((List.take_sublist j pl).map _), P.nc.sublist ((List.take_sublist j pl).map _), fun y hy => ⟨P.lt y (List.mem_of_mem_take hy), P.free y (List.mem_of_mem_take hy), P.mem y (List.mem_of_mem_take hy)⟩, x⟩
/-- a keeping begun again behind a cut -/
theorem again_ok {N : Nat} {fs gs : Fs} {cs : List Str} {pl : List (Nat × Str)} (h : FOk N fs) (P : Plan fs cs pl) (hg : ∀ c ∈ cs, Gd 1000 c) (hm : gs ∈ allCuts fs (deedsOf pl)) (hN : N + pl.length + 2 + cs.length ≤ 1000) :
    FOk (N + pl.length + 2 + cs.length) (inOrd (doAll gs (deedsOf (plan gs cs)))) ∧ CutOk fs (inOrd (doAll gs (deedsOf (plan gs cs)))) cs ∧ ∀ c ∈ cs, (look (keptOf (inOrd (doAll gs (deedsOf (plan gs cs))))) c).isSome = true := by
  obtain ⟨f, j, x⟩ := cut_is h P hg hm
  obtain ⟨P2, f2, x2, a2⟩ := plan_is cs f hg hN
  have hl := plan_len cs gs
  have inj : ∀ y ∈ pl.take j, y ∈ pl := fun y hy => List.mem_of_mem_take hy
  have dis : ∀ y ∈ pl.take j, ∀ z ∈ plan gs cs, y.1 ≠ z.1 := fun y hy z hz e => by
    have h1 := x.new y hy
    rw [e, P2.free z hz] at h1
    cases h1
  have disc : ∀ y ∈ pl.take j, ∀ z ∈ plan gs cs, y.2 ≠ z.2 := fun y hy z hz e => P2.fresh z hz ⟨y.1, P.lt y (inj y hy), by rw [← e]; exact x.new y hy⟩
  refine ⟨(f2.mono (by omega)).inOrd, ⟨pl.take j ++ plan gs cs, ?_, ?_, ?_, (x.app x2 dis).same fun p _ => look_inOrd _ _⟩, fun c hc => kept_has.mpr ?_⟩
  · rw [List.map_append, List.nodup_append]
    refine ⟨P.nn.sublist ((List.take_sublist j pl).map _), P2.nn, fun a ha b hb e => ?_⟩
    obtain ⟨y, hy, rfl⟩ := List.mem_map.mp ha
    obtain ⟨z, hz, rfl⟩ := List.mem_map.mp hb
    exact dis y hy z hz e
  · rw [List.map_append, List.nodup_append]
    refine ⟨P.nc.sublist ((List.take_sublist j pl).map _), P2.nc, fun a ha b hb e => ?_⟩
    obtain ⟨y, hy, rfl⟩ := List.mem_map.mp ha
    obtain ⟨z, hz, rfl⟩ := List.mem_map.mp hb
    exact disc y hy z hz e
  · intro y hy
    rcases List.mem_append.mp hy with hy | hy
    · exact ⟨P.lt y (inj y hy), P.free y (inj y hy), P.mem y (inj y hy)⟩
    · refine ⟨P2.lt y hy, ?_, P2.mem y hy⟩
      have h1 := P2.free y hy
      rw [x.old _ (fun z => NEW_ne _ z.symm) fun z hz e => ?_] at h1
      · exact h1
      · exact dis z hz y hy (shPath_inj e).symm
  · obtain ⟨n, h1, h2⟩ := a2 c hc
    exact ⟨n, h1, by rw [look_inOrd]; exact h2⟩
/-! what is asked of a cut -/
def conts (fs : Fs) : List Str := (nums fs).map fun n => cAt fs (shPath n)
theorem conts_perm {fs gs : Fs} {cs : List Str} (nf : (fs.map (·.1)).Nodup) (ng : (gs.map (·.1)).Nodup) (h : CutOk fs gs cs) : ∃ ws : List Str, (conts gs).Perm (conts fs ++ ws) ∧ ws.Nodup ∧ ∀ c ∈ ws, c ∈ cs := by
  obtain ⟨pl, n1, n2, n3, x⟩ := h
  refine ⟨pl.map (·.2), ?_, n2, fun c hc => ?_⟩
  · have p1 : (nums gs).Perm (nums fs ++ pl.map (·.1)) := by
      refine (List.perm_ext_iff_of_nodup (nums_nd ng) ?_).mpr fun n => ?_
      · rw [List.nodup_append]
        refine ⟨nums_nd nf, n1, fun a ha b hb e => ?_⟩
        obtain ⟨y, hy, rfl⟩ := List.mem_map.mp hb
        have h1 := (mem_nums.mp ha).2
        rw [e, (n3 y hy).2.1] at h1
        cases h1
      · rw [mem_nums, List.mem_append, mem_nums]
        constructor
        · rintro ⟨h1, h2⟩
          by_cases hn : n ∈ pl.map (·.1)
          · exact .inr hn
          · rw [x.old _ (fun z => NEW_ne _ z.symm) fun y hy e => hn (List.mem_map.mpr ⟨y, hy, (shPath_inj e).symm⟩)] at h2
            exact .inl ⟨h1, h2⟩
        · rintro (⟨h1, h2⟩ | hn)
          · refine ⟨h1, ?_⟩
            rw [x.old _ (fun z => NEW_ne _ z.symm) fun y hy e => ?_]
            · exact h2
            · rw [e, (n3 y hy).2.1] at h2
              cases h2
          · obtain ⟨y, hy, rfl⟩ := List.mem_map.mp hn
            refine ⟨(n3 y hy).1, ?_⟩
            show (look gs (shPath y.1)).isSome = true
            rw [x.new y hy]
            rfl
    have p2 := p1.map fun n => cAt gs (shPath n)
    rw [List.map_append] at p2
    refine p2.trans (List.Perm.of_eq ?_)
    congr 1
    · refine List.map_congr_left fun n hn => ?_
      obtain ⟨h1, h2⟩ := mem_nums.mp hn
      unfold cAt
      rw [x.old _ (fun z => NEW_ne _ z.symm) fun y hy e => ?_]
      rw [e, (n3 y hy).2.1] at h2
      cases h2
    · rw [List.map_map]
      refine List.map_congr_left fun y hy => ?_
      show cAt gs (shPath y.1) = y.2
      unfold cAt
      rw [x.new y hy]
      rfl
  · obtain ⟨y, hy, rfl⟩ := List.mem_map.mp hc
    exact (n3 y hy).2.2
def remAll (f olds : List Str) : List Str := olds.foldl (fun f c => f.erase c) f
theorem remAll_perm : ∀ (olds f ws : List Str), f.Perm (olds ++ ws) → (remAll f olds).Perm ws
  | [], f, ws, h => h
  | c :: r, f, ws, h => by
    have h2 : (f.erase c).Perm (r ++ ws) := by
      have h3 := h.erase c
      rw [List.cons_append, List.erase_cons_head] at h3
      exact h3
    exact remAll_perm r _ ws h2
theorem cut_fresh {fs gs : Fs} {cs : List Str} (nf : (fs.map (·.1)).Nodup) (ng : (gs.map (·.1)).Nodup) (h : CutOk fs gs cs) : (remAll (conts gs) (conts fs)).Nodup ∧ ∀ c ∈ remAll (conts gs) (conts fs), c ∈ cs := by
  obtain ⟨ws, h1, h2, h3⟩ := conts_perm nf ng h
  have p := remAll_perm _ _ _ h1
  exact ⟨p.nodup_iff.mpr h2, fun c hc => h3 c (p.mem_iff.mp hc)⟩
theorem cut_new {fs gs : Fs} {cs : List Str} (h : CutOk fs gs cs) {p : Str} (h1 : (look gs p).isSome = true) (h2 : look fs p = none) (h3 : p ≠ NEW) : (shNo p).isSome = true ∧ ∃ c, look gs p = some c ∧ c ∈ cs := by
  obtain ⟨pl, n1, n2, n3, x⟩ := h
  by_cases hx : ∃ y ∈ pl, p = shPath y.1
  · obtain ⟨y, hy, rfl⟩ := hx
    exact ⟨by rw [shNo_path (n3 y hy).1]; rfl, y.2, x.new y hy, (n3 y hy).2.2⟩
  · rw [x.old p h3 fun y hy e => hx ⟨y, hy, e⟩, h2] at h1
    cases h1
theorem cut_old {fs gs : Fs} {cs : List Str} (h : CutOk fs gs cs) {p : Str} (h1 : (look fs p).isSome = true) (h3 : p ≠ NEW) : look gs p = look fs p := by
  obtain ⟨pl, n1, n2, n3, x⟩ := h
  refine x.old p h3 fun y hy e => ?_
  rw [e, (n3 y hy).2.1] at h1
  cases h1
/-! unshelving -/
def dropsOf (fs : Fs) (some_ : List Str) : List Str := (shelvesOf fs).filter (fun p => !decide (cAt fs p ∈ some_)) ++ (if (look fs NEW).isSome = true then [NEW] else [])
def unshOf (fs : Fs) (some_ : List Str) : List Deed := (dropsOf fs some_).map .drop
theorem look_drops : ∀ (l : List Str) (fs : Fs) (p : Str), look (doAll fs (l.map Deed.drop)) p = if p ∈ l then none else look fs p
  | [], fs, p => by simp [doAll_nil]
  | a :: l, fs, p => by
    rw [List.map_cons, doAll_cons, look_drops l]
    show (if p ∈ l then none else look (drp fs a) p) = _
    rw [look_drp]
    by_cases h : p ∈ l
    · simp [h]
    · by_cases h2 : p = a <;> simp [h, h2]
theorem fok_drops : ∀ (l : List Str) {N : Nat} {fs : Fs}, FOk N fs → FOk N (doAll fs (l.map Deed.drop))
  | [], _, _, h => h
  | a :: l, _, _, h => by
    rw [List.map_cons, doAll_cons]
    exact fok_drops l (h.drp a)
def STO : Str := "store/"
theorem sto_path (n : Nat) : cutS (shPath n) none (some ((6 : Nat) : Int)) = STO := by
  apply cps_inj
  rw [cutS_to, shPath_cps, List.take_append_of_le_length (by rw [SH_len]; decide)]
  decide +kernel
theorem sto_new : cutS NEW none (some ((6 : Nat) : Int)) = STO := by
  apply cps_inj
  rw [cutS_to]
  decide +kernel
theorem unsh_ok {N : Nat} {fs gs : Fs} {some_ : List Str} (h : FOk N fs) (hm : gs ∈ allCuts fs (unshOf fs some_)) :
    FOk N gs ∧ (∀ c ∈ some_, Has fs c → (look (keptOf gs) c).isSome = true) ∧ ∀ p, cutS p none (some ((6 : Nat) : Int)) ≠ STO → look gs p = look fs p := by
  obtain ⟨m, hm⟩ := mem_allCuts hm
  have e : gs = inOrd (inOrd (doAll fs ((unshOf fs some_).take m))) := by
    rcases hm with e | ⟨k, p, c, hpc, _⟩
    · exact e
    · obtain ⟨y, _, e⟩ := List.mem_map.mp hpc
      cases e
  subst e
  unfold unshOf
  rw [← List.map_take]
  have lk : ∀ p, look (inOrd (inOrd (doAll fs (((dropsOf fs some_).take m).map Deed.drop)))) p = if p ∈ (dropsOf fs some_).take m then none else look fs p := fun p => by
    rw [look_inOrd, look_inOrd, look_drops]
  have cases_ : ∀ p ∈ (dropsOf fs some_).take m, (∃ n, p = shPath n ∧ cAt fs p ∉ some_) ∨ p = NEW := fun p hp => by
    have hp := List.mem_of_mem_take hp
    unfold dropsOf at hp
    rcases List.mem_append.mp hp with hp | hp
    · obtain ⟨h1, h2⟩ := List.mem_filter.mp hp
      obtain ⟨n, _, rfl⟩ := List.mem_map.mp h1
      exact .inl ⟨n, rfl, by simpa using h2⟩
    · split at hp
      · exact .inr (List.mem_singleton.mp hp)
      · cases hp
  refine ⟨((fok_drops _ h).inOrd).inOrd, fun c hc hh => kept_has.mpr ?_, fun p hp => ?_⟩
  · obtain ⟨n, h1, h2⟩ := hh
    refine ⟨n, h1, ?_⟩
    rw [lk, if_neg]
    · exact h2
    · intro hm
      rcases cases_ _ hm with ⟨k, _, h3⟩ | h3
      · refine h3 ?_
        unfold cAt
        rw [h2]
        exact hc
      · exact NEW_ne _ h3.symm
  · rw [lk, if_neg]
    intro hm
    rcases cases_ _ hm with ⟨n, h1, _⟩ | h1
    · rw [h1] at hp
      exact hp (sto_path n)
    · rw [h1] at hp
      exact hp sto_new
end Pw

set_option maxHeartbeats 4000000
/-! the text by places; what stays; what a def is -/
namespace Pw
open PySem PySem.Spec PyProof.Rows L2 LamX
def top (i : Nat) : Stmt := PySem.Challenge.pw_packsworn_k65_whole_shelves_are_whole.main.body.getD i (.Pass ⟨0, 0, 0, 0⟩)
abbrev s_number_behind : Stmt := top 4
abbrev s_is_shelf : Stmt := top 5
abbrev s_shelves : Stmt := top 6
abbrev s_kept : Stmt := top 7
abbrev s_keeping : Stmt := top 8
abbrev s_unshelving : Stmt := top 9
abbrev s_done : Stmt := top 11
abbrev s_in_order : Stmt := top 12
abbrev s_after : Stmt := top 13
abbrev s_cut : Stmt := top 14
abbrev s_signs_of : Stmt := top 15
abbrev s_all_cuts : Stmt := top 16
abbrev s_law_bag : Stmt := top 18
abbrev s_law_take : Stmt := top 19
abbrev s_law_one : Stmt := top 20
abbrev s_law_mixed : Stmt := top 21
abbrev s_law_alike : Stmt := top 22
abbrev s_law_versions : Stmt := top 23
abbrev s_law_after : Stmt := top 24
abbrev s_law_number_of : Stmt := top 25
abbrev s_law_numbers : Stmt := top 26
abbrev s_law_kept : Stmt := top 27
abbrev s_law_keeping : Stmt := top 28
abbrev s_law_log_text : Stmt := top 29
abbrev s_law_lock_text : Stmt := top 30
abbrev s_law_small_packs : Stmt := top 31
abbrev s_law_some_plan : Stmt := top 32
abbrev s_law_drawn_log : Stmt := top 33
abbrev s_law_drawn_files : Stmt := top 34
abbrev s_law_is_cut_right : Stmt := top 35
abbrev s_law : Stmt := top 36
/-! ### a def of the text -/
structure PwDef (K : PySem.W.Frag) (mg : Str → Option Value) (x : Str) (st : Stmt) : Prop where
  ex : ∃ (f : Addr) (fd : FuncData), FunD K x x (defArgs st) (defBody st) (defScope st) [] [] f fd ∧ mg x = some (.ref f)
abbrev Cal := @C8.Cal
theorem cal_of {P : Program} {w : World} {K : PySem.W.Frag} {mg : Str → Option Value} {base : Heap} {x : Str} {st : Stmt} {N ps : List Str} {k : Nat} {sp : Sp} (D : PwDef K mg x st) (S : FnScope N ps (defScope st))
    (hb : ∀ (kV doc pm : Value) (an : Option Addr) (cdv ct : Value) (us : List Value), us.length = ps.length → bindArgs (PySem.W.fnOf x x (defArgs st) (defBody st) (defScope st) .none kV doc pm an cdv ct) ⟨us, []⟩ = pure (ps.zip us))
    (len : ∀ vs H Q E, sp vs H Q E → vs.length = ps.length)
    (hbody : ∀ (f : Addr) (cdv : Value) (A : Around) (outer : List Env) (s : Shared) (H : Hp) (vs : List V) (Q : VK) (E : XK), Room k (A.deeper (envOfC x (defScope st) s.heap.objs.size f cdv)) → sp vs H Q E →
      ∃ t, PSs (cxOf C8.CX0 P w K mg base N x (defScope st) f cdv A outer s H E).nox (defBody st) t ∧ t { nx := fun _ H' => Q .non H', rt := Q } (start N vs) H) : Cal P w K mg base (k + 1) x sp [] := by
  obtain ⟨f, fd, F, hm⟩ := D.ex
  exact ⟨f, fd, ps, [], F.ok S len fun cdv A outer s H vs Q E hr h => by
    obtain ⟨t, h1, h2⟩ := hbody f cdv A outer s H vs Q E hr h
    exact ⟨t, h1.nox, h2⟩, hm, F.kp, F.bindsN hb, .nil⟩
theorem Cal.mono {P : Program} {w : World} {K : PySem.W.Frag} {mg : Str → Option Value} {base : Heap} {x : Str} {j k : Nat} {sp : Sp} (c : Cal P w K mg base j x sp []) (h : j ≤ k) : Cal P w K mg base k x sp [] := by
  obtain ⟨f, fd, ps, ds, F, a, b, d, e⟩ := c.ex
  exact ⟨f, fd, ps, ds, F.mono h, a, b, d, e⟩

/-! ### what stays: all that is tracked but what stands at S, and but the tables, which grow -/
def NoT (o : HO) : Prop := ∀ ps, o ≠ .tbl ps
structure Mod (T : List (Addr × Str)) (S : List Addr) (H H' : Hp) : Prop where
  keep : ∀ b o, b ∉ S → NoT o → H b = some o → H' b = some o
  tabs : Tabs T H → Tabs T H'
  old : ∀ b, H' b = none → H b = none
section
variable {T : List (Addr × Str)} {S S' : List Addr} {H H1 H2 : Hp} {a b p : Addr} {o : HO}
theorem noT_lst {xs : List V} : NoT (.lst xs) := fun _ e => by cases e
theorem noT_tup {xs : List V} : NoT (.tup xs) := fun _ e => by cases e
theorem noT_dK {kvs : List (Key × V)} : NoT (.dK kvs) := fun _ e => by cases e
theorem noT_frz {ob : Obj} {u : HO} : NoT (.frz ob u) := fun _ e => by cases e
theorem noT_set {a : Addr} {φ : Heap → Prop} : NoT (.ext φ) := fun _ e => by cases e
theorem Mod.refl (H : Hp) : Mod T S H H := ⟨fun _ _ _ _ h => h, id, fun _ h => h⟩
theorem Mod.trans (x : Mod T S H H1) (y : Mod T S H1 H2) : Mod T S H H2 := ⟨fun b o hb n h => y.keep b o hb n (x.keep b o hb n h), fun h => y.tabs (x.tabs h), fun b h => x.old b (y.old b h)⟩
theorem Mod.mono (x : Mod T S H H1) (h : ∀ b ∈ S, b ∈ S') : Mod T S' H H1 := ⟨fun b o hb n e => x.keep b o (fun z => hb (h b z)) n e, x.tabs, x.old⟩
theorem Mod.any (x : Mod T [] H H1) : Mod T S H H1 := x.mono fun _ h => by cases h
theorem Mod.same (x : Same H H1) : Mod T S H H1 := ⟨fun b o _ _ h => x b o h, fun t => t.ext x, fun _ h => x.free h⟩
/-- what is new -/
theorem same_new (h : H p = none) : Same H (upd H p o) := fun b x e => by
  rw [upd_ne (ne_of_none e h)]
  exact e
theorem Mod.new (h : H p = none) : Mod T S H (upd H p o) := Mod.same (same_new h)
/-- an object that is written -/
theorem upd_no {o : HO} (e : upd H p o b = none) : H b = none := by
  unfold upd at e
  split at e
  · cases e
  · exact e
def Pl (o : HO) : Prop := NoT o ∧ ∀ φ, o ≠ .ext φ
theorem pl_lst {xs : List V} : Pl (.lst xs) := ⟨noT_lst, fun _ e => by cases e⟩
theorem pl_dK {kvs : List (Key × V)} : Pl (.dK kvs) := ⟨noT_dK, fun _ e => by cases e⟩
theorem pl_frz {ob : Obj} {u : HO} : Pl (.frz ob u) := ⟨noT_frz, fun _ e => by cases e⟩
theorem tabs_upd {u : HO} (h : H p = some u) (n : Pl u) (hT : Tabs T H) : Tabs T (upd H p o) := by
  intro q hq
  obtain ⟨ps, h1, h2, h3⟩ := hT q hq
  refine ⟨ps, ?_, h2, fun pos cv hc => ?_⟩
  · rw [upd_ne]
    · exact h1
    · intro z
      rw [z, h] at h1
      exact n.1 _ (Option.some.inj h1)
  · obtain ⟨c, e1, e2⟩ := h3 pos cv hc
    refine ⟨c, e1, ?_⟩
    rw [upd_ne]
    · exact e2
    · intro z
      rw [z, h] at e2
      exact n.2 _ (Option.some.inj e2)
theorem Mod.set {u : HO} (h : H p = some u) (n : Pl u) (hp : p ∈ S) : Mod T S H (upd H p o) :=
  ⟨fun b x hb _ e => by
    rw [upd_ne]
    · exact e
    · intro z
      exact hb (z ▸ hp), tabs_upd h n, fun b e => upd_no e⟩
/-- an object that was not there at the entry is written -/
theorem Mod.own {u : HO} (x : Mod T S H H1) (h0 : H p = none) (h : H1 p = some u) (n : Pl u) : Mod T S H (upd H1 p o) :=
  ⟨fun b y hb ny e => by
    rw [upd_ne (ne_of_none e h0)]
    exact x.keep b y hb ny e, fun t => tabs_upd h n (x.tabs t), fun b e => x.old b (upd_no e)⟩
theorem Mod.new' (x : Mod T S H H1) (h : H1 p = none) : Mod T S H (upd H1 p o) := x.trans (Mod.new h)
/-- what was not there ahead of it may change -/
theorem Mod.drop (x : Mod T [p] H H1) (h : H p = none) : Mod T [] H H1 :=
  ⟨fun b o _ n e => x.keep b o (fun z => by rw [List.mem_singleton.mp z, h] at e; cases e) n e, x.tabs, x.old⟩
theorem Mod.drop2 (x : Mod T [p, a] H H1) (h : H p = none) : Mod T [a] H H1 :=
  ⟨fun b o hb n e => x.keep b o (fun z => by
    rcases List.mem_cons.mp z with z | z
    · rw [z, h] at e; cases e
    · exact hb z) n e, x.tabs, x.old⟩
theorem Mod.at0 (x : Mod T [] H H1) (n : NoT o) (h : H b = some o) : H1 b = some o := x.keep b o (fun z => by cases z) n h
theorem Mod.lst {xs : List V} (x : Mod T [] H H1) (h : H b = some (.lst xs)) : H1 b = some (.lst xs) := x.at0 noT_lst h
theorem Mod.tup {xs : List V} (x : Mod T [] H H1) (h : H b = some (.tup xs)) : H1 b = some (.tup xs) := x.at0 noT_tup h
theorem Mod.dK {xs : List (Key × V)} (x : Mod T [] H H1) (h : H b = some (.dK xs)) : H1 b = some (.dK xs) := x.at0 noT_dK h
theorem Mod.sql {K : PySem.W.Frag} {xs : List V} (x : Mod T [] H H1) (h : SqL K H b xs) : SqL K H1 b xs := by
  rcases h with (h | ⟨o, h⟩) | h
  · exact .inl (.inl (x.lst h))
  · exact .inl (.inr ⟨o, x.at0 noT_frz h⟩)
  · exact .inr h
theorem Mod.sqt {K : PySem.W.Frag} {xs : List V} (x : Mod T [] H H1) (h : SqT K H b xs) : SqT K H1 b xs := by
  rcases h with (h | ⟨o, h⟩) | h
  · exact .inl (.inl (x.tup h))
  · exact .inl (.inr ⟨o, x.at0 noT_frz h⟩)
  · exact .inr h
/-- behind a lock -/
theorem Mod.lock {u : HO} {ob : Obj} (h : H p = some u) (n : Pl u) (t : Tabs T H) : Tabs T (upd H p (.frz ob u)) := tabs_upd h n t
theorem Mod.unlock {u : HO} {ob : Obj} (h : H p = some u) (n : Pl u) (x : Mod T S (upd H p (.frz ob u)) H1) (h1 : H1 p = some (.frz ob u)) : Mod T S H (upd H1 p u) := by
  refine ⟨fun b o hb nb e => ?_, fun t => tabs_upd h1 pl_frz (x.tabs (tabs_upd h n t)), fun b e => upd_no (x.old b (upd_no e))⟩
  by_cases z : b = p
  · rw [z] at e ⊢
    rw [upd_same, ← e, h]
  · rw [upd_ne z]
    exact x.keep b o hb nb (by rw [upd_ne z]; exact e)
end

/-! ### data -/
def dk {α : Type} (f : α → V) (kvs : List (Str × α)) : List (Key × V) := kvs.map fun kv => (Sum.inr kv.1, f kv.2)
abbrev dS (fs : Fs) : List (Key × V) := dk V.str fs
section
variable {α : Type} {f : α → V}
theorem key_dec (a b : Str) : decide ((Sum.inr a : Key) = Sum.inr b) = decide (a = b) := key_rr a b
theorem val_dk (kvs : List (Str × α)) (k : Str) : valV (dk f kvs) (Sum.inr k) = (look kvs k).map f := by
  induction kvs with
  | nil => rfl
  | cons p r ih =>
    have e1 : dk f (p :: r) = (Sum.inr p.1, f p.2) :: dk f r := rfl
    rw [e1, look_cons]
    by_cases h : p.1 = k
    · rw [valV_pos (by rw [h]), if_pos h]
      rfl
    · rw [valV_neg (fun z => h (Sum.inr.inj z)), if_neg h, ih]
theorem put_dk (kvs : List (Str × α)) (k : Str) (v : α) : putK (dk f kvs) (Sum.inr k) (f v) = dk f (put kvs k v) := by
  have e : ((dk f kvs).any fun kv => decide (kv.1 = Sum.inr k)) = (kvs.any fun kv => decide (kv.1 = k)) := by
    unfold dk
    rw [List.any_map]
    congr 1
    funext p
    exact key_dec p.1 k
  unfold putK put
  rw [e]
  by_cases h : (kvs.any fun kv => decide (kv.1 = k)) = true
  · rw [if_pos h, if_pos h]
    unfold dk
    rw [List.map_map, List.map_map]
    refine List.map_congr_left fun p _ => ?_
    by_cases z : p.1 = k
    · simp [z]
    · have : ¬ (Sum.inr p.1 : Key) = Sum.inr k := fun q => z (Sum.inr.inj q)
      simp [z]
  · rw [if_neg h, if_neg h]
    unfold dk
    rw [List.map_append]
    rfl
theorem drop_dk (kvs : List (Str × α)) (k : Str) : dropK (dk f kvs) (Sum.inr k) = dk f (drp kvs k) := by
  unfold dropK drp dk
  rw [List.filter_map]
  congr 1
  refine List.filter_congr fun p _ => ?_
  show decide ((Sum.inr p.1 : Key) ≠ Sum.inr k) = decide (p.1 ≠ k)
  by_cases z : p.1 = k
  · simp [z]
  · simp [z]
theorem len_dk (kvs : List (Str × α)) : (dk f kvs).length = kvs.length := by
  unfold dk
  rw [List.length_map]
theorem keys_dk (kvs : List (Str × α)) : (dk f kvs).map (·.1) = (kvs.map (·.1)).map Sum.inr := by
  unfold dk
  rw [List.map_map, List.map_map]
  rfl
theorem get_dk (kvs : List (Str × α)) (i : Nat) : (dk f kvs)[i]? = kvs[i]?.map fun kv => (Sum.inr kv.1, f kv.2) := by
  unfold dk
  rw [List.getElem?_map]
end
/-- a dict's reading, by text keys -/
theorem dget_of {H : Hp} {a : Addr} {fs : Fs} (h : H a = some (.dK (dS fs))) (k : Str) : DGet H a (.str k) ((look fs k).map V.str) := by
  have z := DGet.k (k := Sum.inr k) h
  rw [val_dk] at z
  exact z
theorem dget_rd {H : Hp} {a : Addr} {fs : Fs} (h : Rd H a (.dK (dS fs))) (k : Str) : DGet H a (.str k) ((look fs k).map V.str) :=
  .inl ⟨dS fs, Sum.inr k, h, rfl, (val_dk fs k).symm⟩
theorem dput_of {H : Hp} {a : Addr} {fs : Fs} (h : H a = some (.dK (dS fs))) (k c : Str) (hl : fs.length < sizeLine) : DPut H a (.str k) (.str c) (upd H a (.dK (dS (put fs k c)))) := by
  have z := DPut.k (k := Sum.inr k) (v := V.str c) h (by rw [len_dk]; exact hl)
  rw [put_dk] at z
  exact z
/-- a list of tuples of texts -/
def Rows (H : Hp) (a : Addr) (rows : List (List Str)) : Prop := ∃ as : List Addr, H a = some (.lst (as.map V.ref)) ∧ Paired (fun p d => H p = some (.tup (d.map V.str))) as rows
theorem Rows.mod {T : List (Addr × Str)} {H H1 : Hp} {a : Addr} {rows : List (List Str)} (x : Mod T [] H H1) (h : Rows H a rows) : Rows H1 a rows := by
  obtain ⟨as, h1, h2⟩ := h
  exact ⟨as, x.lst h1, Paired.mapP h2 fun p d e => x.tup e⟩
theorem paired_len {α β : Type} {F : α → β → Prop} {l : List α} {m : List β} (h : Paired F l m) : l.length = m.length := Paired.length h
theorem paired_get {α β : Type} {F : α → β → Prop} : ∀ {l : List α} {m : List β}, Paired F l m → ∀ {i : Nat} {b : β}, m[i]? = some b → ∃ a, l[i]? = some a ∧ F a b
  | _, _, .nil, i, b, h => by simp at h
  | _, _, .cons r t, 0, b, h => by
    simp at h
    subst h
    exact ⟨_, rfl, r⟩
  | _, _, .cons r t, i + 1, b, h => by
    obtain ⟨a, h1, h2⟩ := paired_get t (i := i) (b := b) (by simpa using h)
    exact ⟨a, by simpa using h1, h2⟩
theorem paired_get' {α β : Type} {F : α → β → Prop} : ∀ {l : List α} {m : List β}, Paired F l m → ∀ {i : Nat} {a : α}, l[i]? = some a → ∃ b, m[i]? = some b ∧ F a b
  | _, _, .nil, i, b, h => by simp at h
  | _, _, .cons r t, 0, b, h => by
    simp at h
    subst h
    exact ⟨_, rfl, r⟩
  | _, _, .cons r t, i + 1, b, h => by
    obtain ⟨a, h1, h2⟩ := paired_get' t (i := i) (a := b) (by simpa using h)
    exact ⟨a, by simpa using h1, h2⟩
theorem paired_app {α β : Type} {F : α → β → Prop} : ∀ {l l' : List α} {m m' : List β}, Paired F l m → Paired F l' m' → Paired F (l ++ l') (m ++ m')
  | _, _, _, _, .nil, h => h
  | _, _, _, _, .cons r t, h => .cons r (paired_app t h)
theorem small_sz {n : Nat} (h : n ≤ 100000) : n ≤ sizeLine := Nat.le_trans h (by decide)
theorem small_lt {n : Nat} (h : n < 100000) : n < sizeLine := Nat.lt_of_lt_of_le h (by decide)
end Pw

set_option maxHeartbeats 4000000
namespace Pw
open PySem PySem.Spec PyProof.Rows L2 LamX
variable {P : Program} {w : World} {K : PySem.W.Frag} {mg : Str → Option Value} {base : Heap} {T : List (Addr × Str)}
def noV : Option Nat → V
  | some n => .int n
  | none => .non
theorem yes_ {σ : L2.St} {H : Hp} {Q : Bool → Hp → Prop} (h : Q true H) : tYes σ H Q := h
/-- number_behind(path, "store/c") -/
def spNb (T : List (Addr × Str)) : Sp := fun vs H Q _ => ∃ p : Str, vs = [.str p, .str SH] ∧ p.length ≤ 26 ∧ ∀ H', Mod T [] H H' → Q (noV (shNo p)) H'
theorem sc_nb : FnScope ["path", "begin", "word", "sign"] ["path", "begin"] (defScope s_number_behind) := ⟨rfl, rfl, rfl, by decide +kernel, rfl, by decide +kernel, by decide +kernel⟩
theorem ok_nb (D : PwDef K mg "number_behind" s_number_behind) (ml : mg "len" = none) (ma : mg "all" = none) (mi : mg "int" = none) (mM : ∃ t, mg "MOST_DIGITS" = some (.int 19 t)) : Cal P w K mg base 1 "number_behind" (spNb T) [] := by
  obtain ⟨tM, mM⟩ := mM
  refine cal_of D sc_nb (fun _ _ _ _ _ _ us hl => match us, hl with | [_, _], _ => rfl) (fun vs H Q E h => ?_) (fun f cdv A outer s H vs Q E hr h => ?_)
  · obtain ⟨p, rfl, _⟩ := h
    rfl
  · obtain ⟨p, rfl, hp, q⟩ := h
    refine ⟨_, pss_cons (ps_set (i := 2) sc_nb.nd rfl (.inl rfl) (pe_slice sl_str (pv 0) (po_some (pe_callB call_len_str (by rfl) ml PySem.boot_len (pa_cons (pv 1) pa_nil))) po_none))
      (pss_cons (ps_if (PW.pt (pw_or (pt_cmpR op_ne (pe_slice sl_str (pv 0) po_none (po_some (pe_callB call_len_str (by rfl) ml PySem.boot_len (pa_cons (pv 1) pa_nil)))) (pv 1) (nomark _))
          (pw_or1 (pt_not (pt_chain op_le op_le pe_int (pe_callB call_len_str (by rfl) ml PySem.boot_len (pa_cons (pv 2) pa_nil)) (pe_glob (v := .int 19) rfl mM ⟨_, rfl⟩))))))
          (pss_one (ps_ret pe_non)) pss_nil)
      (pss_cons (ps_if (pt_not (pt_val (pe_callB (cr_all rfl) (by rfl) ma (by decide +kernel) (pa_cons
          (pe_lc (own := [("sign", 3)]) (g := gName 3) (by rfl) sc_nb.nd (pi_str (pv 2)) (blkOk_by (own := [("sign", 3)]) (N := ["path", "begin", "word", "sign"]) (sc := defScope s_number_behind) (by decide +kernel)) (fun _ _ _ _ _ => pg_name (i := 3) sc_nb.nd rfl (Or.inl rfl)) (fun _ _ _ _ _ => pts_nil) (fun _ _ _ _ _ => pe_cmpR op_in_sign (pv 3) pe_str rfl)) pa_nil))))
          (pss_one (ps_ret pe_non)) pss_nil)
      (pss_one (ps_ret (pe_ifExp (PW.pt (pw_and (pt_cmpR op_gt (pe_callB call_len_str (by rfl) ml PySem.boot_len (pa_cons (pv 2) pa_nil)) pe_int (nomark _)) (pw_and1 (pt_cmpR op_eq (pe_ix ix_str (pv 2) pe_int (fun _ _ => rfl)) pe_str (nomark _))))) pe_non
          (pe_callTy call_int_str (by rfl) mi (by decide +kernel) (pa_cons (pv 2) pa_nil))))))), ?_⟩
    have hS : SH.length ≤ sizeLine := by decide +kernel
    have hP : p.length ≤ sizeLine := Nat.le_trans hp (by decide)
    have eS : SH.length = 7 := by decide +kernel
    have e1 : (cutS p none (some ((SH.length : Nat) : Int)) = SH) ↔ p.cps.toList.take 7 = SH.cps.toList := by
      rw [eS]
      refine ⟨fun e => ?_, fun e => cps_inj (by rw [cutS_to, e])⟩
      rw [← cutS_to, e]
    have e2 : (cutS p (some ((SH.length : Nat) : Int)) none).cps.toList = tailW p := by
      rw [eS, cutS_from]
      rfl
    have e3 : (cutS p (some ((SH.length : Nat) : Int)) none).length = (tailW p).length := by rw [str_len, e2]
    have hW : (cutS p (some ((SH.length : Nat) : Int)) none).length ≤ sizeLine := by
      rw [e3]
      unfold tailW
      rw [List.length_drop, ← str_len]
      omega
    generalize hw : cutS p (some ((SH.length : Nat) : Int)) none = wd at e2 e3 hW
    -- word = path[len(begin):]
    refine ⟨_, rfl, _, rfl, SH, rfl, hS, _, rfl, p, rfl, hP, ?_⟩
    rw [hw]
    -- if path[:len(begin)] != begin
    refine ⟨_, rfl, _, rfl, SH, rfl, hS, _, rfl, p, rfl, hP, _, rfl, rfl, _, rfl, ?_⟩
    have none_ : ∀ H', Mod T [] H H' → (shNo p = none) → Q .non H' := fun H' m e => by
      have z := q H' m
      rw [e] at z
      exact z
    refine ite2 (fun h => ?_) (fun h => ?_)
    · have hn : shNo p = none := by
        unfold shNo
        rw [if_neg]
        rintro ⟨c, _⟩
        have c := e1.mpr c
        rw [c] at h
        simp at h
      refine iteT ?_
      exact none_ H (Mod.refl H) hn
    · have h7 : p.cps.toList.take 7 = SH.cps.toList := by
        refine e1.mp ?_
        have h : ¬ (!decide (V.str (cutS p none (some ((SH.length : Nat) : Int))) = V.str SH)) = true := h
        simp only [Bool.not_eq_true', Bool.not_eq_false, decide_eq_true_eq] at h
        exact V.str.inj (by simpa using h)
      -- not 1 <= len(word) <= MOST_DIGITS
      refine ⟨_, rfl, wd, rfl, hW, _, _, rfl, rfl, _, rfl, ?_⟩
      refine ite2 (fun h1 => ?_) (fun h1 => ?_)
      · have h1 : 1 ≤ (tailW p).length := by
          have := of_decide_eq_true h1
          omega
        refine ⟨_, _, rfl, rfl, _, rfl, ?_⟩
        refine ite2 (fun h2 => ?_) (fun h2 => ?_)
        · have hn : shNo p = none := by
            unfold shNo
            rw [if_neg]
            rintro ⟨_, _, c, _⟩
            simp at h2
            omega
          exact none_ H (Mod.refl H) hn
        · have h2 : (tailW p).length ≤ 19 := by
            simp at h2
            omega
          -- if not all([sign in "0123456789" for sign in word])
          refine ⟨_, rfl, wd, rfl, fun B hB => ?_⟩
          refine lc_it walk_str (fun i H' => Mod T [] H H' ∧ H' B = some (.lst (((wd.cps.toList.take i).map fun c => decide (48 ≤ c ∧ c ≤ 57)).map V.bl))) ⟨Mod.new hB, upd_same⟩ (fun _ _ _ _ => trivial) (fun i x H1 H2 hi hp hy => ?_) (fun H1 hp => ?_)
          · obtain ⟨m, e⟩ := hp
            obtain ⟨rfl, c, hc, rfl⟩ := hy
            refine ⟨rfl, yes_ (iteT ?_)⟩
            refine ⟨_, rfl, c, _, rfl, rfl, _, e, ?_, m.own hB e pl_lst, ?_⟩
            · rw [List.length_map, List.length_map, List.length_take, ← str_len]
              exact small_lt (by rw [e3]; omega)
            · rw [upd_same]
              have hc : wd.cps.toList[i]? = some c := by rw [← hc]; exact Array.getElem?_toList
              rw [List.take_add_one, hc, List.map_append, List.map_append]
              have hd : decide (c ∈ (Str.ofString "0123456789").cps.toList) = decide (48 ≤ c ∧ c ≤ 57) := by
                have e : (Str.ofString "0123456789").cps.toList = [48, 49, 50, 51, 52, 53, 54, 55, 56, 57] := by decide +kernel
                rw [e]
                by_cases z : 48 ≤ c ∧ c ≤ 57
                · rw [decide_eq_true z]
                  simp only [List.mem_cons, List.not_mem_nil, or_false, decide_eq_true_eq]
                  omega
                · rw [decide_eq_false z]
                  simp only [List.mem_cons, List.not_mem_nil, or_false, decide_eq_false_iff_not]
                  omega
              rw [hd]
              rfl
          · obtain ⟨m, e⟩ := hp
            have eL : wd.cps.toList.take wd.cps.size = wd.cps.toList := List.take_of_length_le (by rw [Array.length_toList]; exact Nat.le_refl _)
            rw [eL] at e
            have eA : ((wd.cps.toList.map fun c => decide (48 ≤ c ∧ c ≤ 57)).all id) = digB (tailW p) := by
              unfold digB
              rw [List.all_map, e2]
              rfl
            refine ⟨B, _, rfl, SqL.of e, _, rfl, ?_⟩
            rw [eA]
            by_cases h3 : digB (tailW p) = true
            · rw [h3]
              refine iteF ?_
              -- None if len(word) > 1 and word[0] == "0" else int(word)
              have hne : tailW p ≠ [] := by
                intro z
                rw [z] at h1
                exact absurd h1 (by decide)
              refine ⟨_, rfl, wd, rfl, hW, _, _, rfl, rfl, _, rfl, ?_⟩
              have key : (1 < (tailW p).length → (tailW p).head? ≠ some 48) → Q (.int ((NumText.digitsVal (tailW p) : Nat) : Int)) H1 := fun z => by
                have hs : shNo p = some (NumText.digitsVal (tailW p)) := by
                  unfold shNo
                  rw [if_pos ⟨h7, hne, h2, h3, (canon_iff hne h3).mpr (by
                    by_cases hh : 1 < (tailW p).length
                    · exact .inr (z hh)
                    · exact .inl (by omega))⟩]
                have := q H1 m
                rw [hs] at this
                exact this
              have fin : ∀ (Q' : VK), Q' (.int ((NumText.digitsVal (tailW p) : Nat) : Int)) H1 → ∃ a n, [V.str wd] = [V.str a] ∧ PySem.intText? a = some n ∧ a.length ≤ 640 ∧ Q' (.int n) H1 := fun Q' z => by
                refine ⟨wd, _, rfl, ?_, by omega, z⟩
                have := intText_digits (x := wd) (by rw [e2]; exact digB_all h3) (by rw [e2]; exact hne) (by omega)
                rw [e2] at this
                exact this
              refine ite2 (fun h4 => ?_) (fun h4 => ?_)
              · have h4 : 1 < (tailW p).length := by
                  have := of_decide_eq_true h4
                  omega
                obtain ⟨c, r, ec⟩ : ∃ c r, tailW p = c :: r := by
                  cases z : tailW p with
                  | nil => exact absurd z hne
                  | cons c r => exact ⟨c, r, rfl⟩
                refine ⟨_, rfl, wd, 0, c, rfl, rfl, hW, ?_, rfl, _, rfl, ?_⟩
                · rw [e2, ec]
                  exact atI_nat (j := 0) rfl
                · refine ite2 (fun h5 => ?_) (fun h5 => ?_)
                  · have hn : shNo p = none := by
                      unfold shNo
                      rw [if_neg]
                      rintro ⟨_, _, _, c4, c5⟩
                      rcases (canon_iff hne c4).mp c5 with z | z
                      · omega
                      · refine z ?_
                        rw [ec]
                        have h5 := V.str.inj (of_decide_eq_true h5)
                        have h6 := congrArg (fun z : Str => z.cps.toList) h5
                        have h7 : [c] = (Str.ofString "0").cps.toList := h6
                        rw [show (Str.ofString "0").cps.toList = [48] by decide +kernel] at h7
                        cases h7
                        rfl
                    exact none_ H1 m hn
                  · refine ⟨_, rfl, fin _ (key fun _ z => h5 ?_)⟩
                    rw [ec] at z
                    have z : c = 48 := Option.some.inj z
                    rw [z]
                    decide +kernel
              · refine iteF ?_
                refine ⟨_, rfl, fin _ (key fun z => absurd z ?_)⟩
                simp at h4
                omega
            · have h3 : digB (tailW p) = false := by simpa using h3
              rw [h3]
              refine iteT ?_
              have hn : shNo p = none := by
                unfold shNo
                rw [if_neg]
                rintro ⟨_, _, _, c, _⟩
                rw [h3] at c
                cases c
              exact none_ H1 m hn
      · have hn : shNo p = none := by
          unfold shNo
          rw [if_neg]
          rintro ⟨_, c, _⟩
          have : (tailW p).length ≠ 0 := fun z => c (List.eq_nil_of_length_eq_zero z)
          simp at h1
          omega
        refine ⟨false, by simpa using h1, ?_⟩
        exact none_ H (Mod.refl H) hn
end Pw

set_option maxHeartbeats 4000000
/-! sorted(l, key=f) for f a function that keeps a promise -/
namespace Pw
open PySem PySem.Spec PyProof.Rows L2 LamX
theorem ns_fun {h : Heap} {a : Addr} {m m' : Str → Option Value} (x : h.Ns a m) (y : h.Ns a m') : m = m' := by
  obtain ⟨o, es, ep, e, d, _, f⟩ := x
  obtain ⟨o', es', ep', e', d', _, f'⟩ := y
  rw [e] at e'
  cases e'
  rw [d] at d'
  cases d'
  funext n
  rw [← f n, ← f' n]
def bkV (u : Value) : V := (absV u).getD .non
theorem bkV_of {x : V} {u : Value} (r : RelV x u) : bkV u = x := by
  unfold bkV
  rw [r.abs]
  rfl
theorem bkV_map : ∀ {xs : List V} {us : List Value}, Vals xs us → us.map bkV = xs
  | _, _, .nil => rfl
  | _, _, .cons r t => by rw [List.map_cons, bkV_of r, bkV_map t]
theorem vals_all : ∀ {xs : List V} {us : List Value}, Vals xs us → ∀ u ∈ us, RelV (bkV u) u
  | _, _, .nil, u, h => by cases h
  | _, _, .cons r t, u, h => by
    rcases List.mem_cons.mp h with rfl | h
    · rw [bkV_of r]
      exact r
    · exact vals_all t u h
theorem vals_map : ∀ {us : List Value}, (∀ u ∈ us, RelV (bkV u) u) → Vals (us.map bkV) us
  | [], _ => .nil
  | u :: us, h => .cons (h u List.mem_cons_self) (vals_map fun v hv => h v (List.mem_cons_of_mem _ hv))
section
variable {X : Cx} {pins : List (Addr × Obj)} {σ : L2.St} {H : Hp} {s : Shared} {Q : VK}
theorem sorted_by {l f : Addr} {ss : List V} {ks : List Int} (I : Inv X pins σ H s) (hl : SqL X.K H l ss) (hlen : ks.length = ss.length) (Rel : Hp → Prop) (h0 : Rel H)
    (turn : ∀ (i : Nat) (x : V) (k : Int) (v : Value) (pins' : List (Addr × Obj)) (s' : Shared) (H' : Hp), ss[i]? = some x → ks[i]? = some k → RelV x v → Inv X pins' σ H' s' → Rel H' →
      wpAny (model X.prog X.w) X.A.in1.in1 (call (.ref f) [v]) (fun u s'' => ∃ H'' t, Inv X pins' σ H'' s'' ∧ u = .int k t ∧ Rel H'') (fun _ _ => False) s')
    (q : ∀ out H' p, Rel H' → H' p = none → (∃ ps : List (Int × V), ps.Perm (ks.zip ss) ∧ out = ps.map (·.2) ∧ ps.Pairwise (fun p q => p.1 ≤ q.1)) → Q (.ref p) (upd H' p (.lst out))) :
    wpAny (model X.prog X.w) X.A (call (.builtin "sorted") [.ref l] [(Str.ofString "key", .ref f)]) (EP X pins σ Q) X.xe s := by
  obtain ⟨its, rv, hpl, hz⟩ := I.list hl
  have hlv : its.length = ss.length := rv.length.symm
  have hZ : its.length ≤ sizeLine := by rw [hlv]; exact hz
  have hZ2 := hZ
  rw [sizeLine_eq] at hZ2
  refine call_function_entry_kw kind_sorted plain_sorted entry_sorted (ksk_s1 _ _) ?_
  unfold Builtin.«sorted»
  refine wpAny_bind (m := checkCount "sorted" 1 1 _) (wpAny_pure ?_)
  refine wpAny_bind (collect_list hpl.isList ?_ (by rw [sizeLine_eq]; omega))
  refine wpAny_bind (wpAny_newList ?_ (by rw [sizeLine_eq]; omega))
  have hsz : ((s.heap.push (seqObj "list" #[] 0)).update s.heap.objs.size (Obj.mapSeq (· ++ its.toArray))).objs.size = s.heap.objs.size + 1 := by
    rw [Heap.size_update, size_push']
  have hoL : (((s.heap.push (seqObj "list" #[] 0)).update s.heap.objs.size (Obj.mapSeq (· ++ its.toArray))).push (seqObj "list" its.toArray 0)).get? (s.heap.objs.size + 1) = some (seqObj "list" its.toArray 0) := by
    rw [← hsz]; exact Heap.get?_push_size _ rfl
  have keep : ∀ b o, s.heap.get? b = some o → (((s.heap.push (seqObj "list" #[] 0)).update s.heap.objs.size (Obj.mapSeq (· ++ its.toArray))).push (seqObj "list" its.toArray 0)).get? b = some o := fun b o q => by
    have hlt : b < s.heap.objs.size := Heap.lt_size q
    rw [Heap.get?_push_ne _ _ _ (by rw [hsz]; exact Nat.ne_of_lt (Nat.lt_succ_of_lt hlt)), Heap.get?_update_ne _ _ _ _ (Nat.ne_of_lt hlt), Heap.get?_push_ne _ _ _ (Nat.ne_of_lt hlt)]
    exact q
  show wpAny _ _ _ _ _ { s with heap := ((s.heap.push (seqObj "list" #[] 0)).update s.heap.objs.size (Obj.mapSeq (· ++ its.toArray))).push (seqObj "list" its.toArray 0) }
  rw [hsz]
  refine wpAny_bind (wpAny_holding (wpAny_call_entry_kw slot_list_sort ⟨_, hoL, rfl⟩ entry_list_sort ?body (ksk_l1 _ _)))
  case body =>
    show wpAny (model X.prog X.w) X.A.in1.in1 (Builtin.«list.sort» ⟨[.ref (s.heap.objs.size + 1)], [(Str.ofString "key", .ref f)]⟩) _ _ _
    rw [ksk_t1]
    have hsz1 : (((s.heap.push (seqObj "list" #[] 0)).update s.heap.objs.size (Obj.mapSeq (· ++ its.toArray))).push (seqObj "list" its.toArray 0)).objs.size = s.heap.objs.size + 2 := by rw [size_push', hsz]
    generalize hh1 : ((s.heap.push (seqObj "list" #[] 0)).update s.heap.objs.size (Obj.mapSeq (· ++ its.toArray))).push (seqObj "list" its.toArray 0) = h1 at hoL keep hsz1 ⊢
    generalize ha : s.heap.objs.size + 1 = a at hoL ⊢
    have s1 := Heap.SameBut.update h1 a (Obj.mapSeq fun _ => (#[] : Array Value))
    obtain ⟨e1, ho1⟩ : ∃ e1, (h1.update a (Obj.mapSeq fun _ => (#[] : Array Value))).get? a = some (seqObj "list" #[] e1) := ⟨_, get?_update_seq hoL fun _ => #[]⟩
    unfold ksk_tree
    refine wpAny_bind (listItems_at hoL rfl ?_)
    refine wpAny_bind (listUpdate_at hoL rfl ?_ (by rw [List.size_toArray, sizeLine_eq]; omega) (Nat.zero_le _))
    refine wpAny_bind (seqEpoch_at ho1 rfl ?_)
    refine wpAny_bind (wpAny_newTuple ?_ (by show its.length ≤ _; rw [sizeLine_eq]; omega))
    refine wpAny_bind (wpAny_newList ?_ (Nat.zero_le _))
    refine wpAny_holding ?_
    have hkS : ((h1.update a (Obj.mapSeq fun _ => (#[] : Array Value))).push (seqObj "tuple" its.toArray 0)).objs.size = s.heap.objs.size + 3 := by rw [size_push', Heap.size_update, hsz1]
    have kp3 : ∀ b o, b ≠ a → h1.get? b = some o → (((h1.update a (Obj.mapSeq fun _ => (#[] : Array Value))).push (seqObj "tuple" its.toArray 0)).push (seqObj "list" #[] 0)).get? b = some o := fun b o hb e =>
      Heap.get?_push_of_some _ (Heap.get?_push_of_some _ ((s1.2 b hb).trans e))
    have at_a : (((h1.update a (Obj.mapSeq fun _ => (#[] : Array Value))).push (seqObj "tuple" its.toArray 0)).push (seqObj "list" #[] 0)).get? a = some (seqObj "list" #[] e1) := Heap.get?_push_of_some _ (Heap.get?_push_of_some _ ho1)
    have at_k : (((h1.update a (Obj.mapSeq fun _ => (#[] : Array Value))).push (seqObj "tuple" its.toArray 0)).push (seqObj "list" #[] 0)).get? (s.heap.objs.size + 3) = some (seqObj "list" #[] 0) := by
      rw [← hkS]
      exact Heap.get?_push_size _ rfl
    show wpAny _ _ (ksk_rest a (.ref f) false its.toArray e1 (.ref ((h1.update a (Obj.mapSeq fun _ => (#[] : Array Value))).push (seqObj "tuple" its.toArray 0)).objs.size)) _ _ { s with heap := ((h1.update a (Obj.mapSeq fun _ => (#[] : Array Value))).push (seqObj "tuple" its.toArray 0)).push (seqObj "list" #[] 0) }
    rw [hkS]
    generalize ((h1.update a (Obj.mapSeq fun _ => (#[] : Array Value))).push (seqObj "tuple" its.toArray 0)).push (seqObj "list" #[] 0) = h3 at kp3 at_a at_k ⊢
    generalize hk : s.heap.objs.size + 3 = kS at at_k ⊢
    have hka : kS ≠ a := by omega
    have ltk : ∀ b o, s.heap.get? b = some o → b ≠ kS ∧ b ≠ a := fun b o e => by
      have z := Heap.lt_size e
      exact ⟨Nat.ne_of_lt (by rw [← hk]; exact Nat.lt_of_lt_of_le z (Nat.le_add_right _ _)), Nat.ne_of_lt (by rw [← ha]; exact Nat.lt_of_lt_of_le z (Nat.le_add_right _ _))⟩
    have I3 : Inv X pins σ H { s with heap := h3 } := I.kept (t' := s.toks) fun b o e => kp3 b o (ltk b o e).2 (keep b o e)
    have hgt : ∀ b, s.heap.objs.size ≤ b → H b = none ∧ b ≠ X.env.locals ∧ b ∉ X.fs ∧ (b ∈ X.ex ∨ X.s_0.heap.objs.size ≤ b) ∧ (∀ x c, X.env.cells.lookup x = some c → c ≠ b) ∧ ∀ p ∈ X.pn ++ pins, p.1 ≠ b := fun b hb => I.fpOk hb (I.hok.fresh hb)
    have fpk := hgt kS (by omega)
    have fpa := hgt a (by omega)
    have nocell : ∀ (xs : Array Value) (n : Nat) (v : Option Value), (seqObj "list" xs n).data ≠ .cell v := fun xs n v z => by cases z
    -- the pins of the two lists
    have repin : ∀ {kA : Array Value} {e : Nat} {H' : Hp} {s' : Shared}, Inv X pins σ H' s' → s'.heap.get? kS = some (seqObj "list" kA e) → s'.heap.get? a = some (seqObj "list" #[] e1) → H' kS = none → H' a = none →
        Inv X (pins ++ [(kS, seqObj "list" kA e), (a, seqObj "list" #[] e1)]) σ H' s' := fun {kA e H' s'} J g1 g2 n1 n2 => J.pins_of fun p hp => by
      rcases List.mem_append.mp hp with hp | hp
      · exact J.pin p (List.mem_append_right _ hp)
      · rcases List.mem_cons.mp hp with rfl | hp
        · exact ⟨g1, n1, fpk.2.1, fpk.2.2.1, nocell _ _⟩
        · rw [List.mem_singleton.mp hp]
          exact ⟨g2, n2, fpa.2.1, fpa.2.2.1, nocell _ _⟩
    have getpin : ∀ {kA : Array Value} {e : Nat} {H' : Hp} {s' : Shared}, Inv X (pins ++ [(kS, seqObj "list" kA e), (a, seqObj "list" #[] e1)]) σ H' s' → (s'.heap.get? kS = some (seqObj "list" kA e) ∧ H' kS = none) ∧ (s'.heap.get? a = some (seqObj "list" #[] e1) ∧ H' a = none) := fun {kA e H' s'} J => by
      have p1 := J.pin (kS, seqObj "list" kA e) (List.mem_append_right _ (List.mem_append_right _ List.mem_cons_self))
      have p2 := J.pin (a, seqObj "list" #[] e1) (List.mem_append_right _ (List.mem_append_right _ (List.mem_cons_of_mem _ List.mem_cons_self)))
      exact ⟨⟨p1.1, p1.2.1⟩, ⟨p2.1, p2.2.1⟩⟩
    unfold ksk_rest
    refine wpAny_bind (wpAny_rule ?_)
    first
      | rw [List.forIn_toArray]
      | (rw [← Array.forIn_toList]; simp only [List.toList_toArray])
      | rw [← Array.forIn_toList]
    refine wpAny_bind (ksk_fold (fun i s' => ∃ H' kA e, Inv X (pins ++ [(kS, seqObj "list" kA e), (a, seqObj "list" #[] e1)]) σ H' s' ∧ Rel H' ∧ IntsAre kA.toList (ks.take i)) its 0 { s with heap := h3 }
      ⟨H, #[], 0, repin I3 at_k at_a fpk.1 fpa.1, h0, by simpa using IntsAre.nil⟩ ?step ?done)
    case step =>
      rintro j v s' hx ⟨H', kA, e, I', rel, hkz⟩
      simp only [Nat.zero_add] at hkz ⊢
      have hj : j < its.length := (List.getElem?_eq_some_iff.mp hx).1
      obtain ⟨k, hkj⟩ : ∃ k, ks[j]? = some k := ⟨_, List.getElem?_eq_getElem (by omega)⟩
      obtain ⟨x, hxj⟩ : ∃ x, ss[j]? = some x := ⟨_, List.getElem?_eq_getElem (by omega)⟩
      obtain ⟨v', hv', rx⟩ := rv.get hxj
      have ev : v = v' := Option.some.inj (hx.symm.trans hv')
      subst ev
      have hzk : kA.size ≤ its.length := by
        have h1 := hkz.length
        rw [Array.length_toList, List.length_take] at h1
        omega
      refine wpAny_bind (wpAny_attempt (wpAny_mono (turn j x k v _ s' H' hxj hkj rx I' rel) (fun u s'' he => ?_) fun _ _ hF => hF.elim))
      obtain ⟨H2, t2, I2, rfl, rel2⟩ := he
      try dsimp only
      obtain ⟨⟨g1, n1⟩, g2, n2⟩ := getpin I2
      have su := Heap.SameBut.update s''.heap kS (Obj.mapSeq (·.push (.int k t2)))
      obtain ⟨c2, hc2⟩ : ∃ c2, (s''.heap.update kS (Obj.mapSeq (·.push (.int k t2)))).get? kS = some (seqObj "list" (kA.push (.int k t2)) c2) := ⟨_, get?_update_seq g1 (·.push (.int k t2))⟩
      have ek : ks.take (j + 1) = ks.take j ++ [k] := by rw [List.take_add_one, hkj]; simp
      have ea : (kA.push (Value.int k t2)).toList = kA.toList ++ [Value.int k t2] := by simp
      refine wpAny_bind (listUpdate_at g1 rfl ?_ (by rw [sizeLine_eq]; omega) (Nat.le_trans (Nat.le_of_eq (Array.size_push ..)) (by rw [sizeLine_eq]; omega)))
      have I4 : Inv X pins σ H2 { s'' with heap := s''.heap.update kS (Obj.mapSeq (·.push (.int k t2))) } := I2.unpinned.turned (it := kS) (t' := s''.toks) (fun b o hb e => (su.2 b hb).trans e) n1 fpk.2.1 fpk.2.2.2.1 fpk.2.2.2.2.1 fpk.2.2.2.2.2
      refine wpAny_pure ⟨rfl, H2, kA.push (.int k t2), c2, repin I4 hc2 ((su.2 a hka.symm).trans g2) n1 n2, rel2, by rw [ea, ek]; exact ksk_snoc hkz⟩
    case done =>
      rintro s' ⟨H', kA, e, I', rel, hkz⟩
      have hkz : IntsAre kA.toList ks := by
        have e3 : ks.take (0 + its.length) = ks := List.take_of_length_le (by omega)
        rw [e3] at hkz
        exact hkz
      obtain ⟨⟨g1, n1⟩, g2, n2⟩ := getpin I'
      have J := I'.unpinned
      try dsimp only
      refine wpAny_bind (listItems_at g1 rfl ?_)
      obtain ⟨m, hF⟩ := J.fr
      have nb : ∀ b, s.heap.objs.size ≤ b → X.base.get? b = none := fun b hb => by
        cases e : X.base.get? b with
        | none => rfl
        | some o =>
          exact absurd (Heap.lt_size (I.bk b o e)) (Nat.not_lt.mpr hb)
      have N : News X.base X.env.locals s'.heap (((allNews X.base s'.heap X.env.locals).filter fun p => decide (p.1 ≠ kS) && decide (p.1 ≠ a)) ++ [(kS, seqObj "list" kA e), (a, seqObj "list" #[] e1)]) := fun p hp => by
        rcases List.mem_append.mp hp with hp | hp
        · exact news_all p (List.mem_filter.mp hp).1
        · rcases List.mem_cons.mp hp with rfl | hp
          · exact ⟨g1, fpk.2.1, nb _ (by omega)⟩
          · rw [List.mem_singleton.mp hp]
            exact ⟨g2, fpa.2.1, nb _ (by omega)⟩
      refine ksk_end_Any hF N hka (fun p hp => by simpa using (Bool.and_eq_true_iff.mp (List.mem_filter.mp hp).2).1) (fun p hp => by simpa using (Bool.and_eq_true_iff.mp (List.mem_filter.mp hp).2).2) hkz (by omega) hZ fun h' tk out c F' N' k' => ⟨_, rfl, ?_⟩
      have key : ∀ b o, b ≠ X.env.locals → b ≠ kS → b ≠ a → s'.heap.get? b = some o → h'.get? b = some o := fun b o b1 b2 b3 eb => by
        cases z : X.base.get? b with
        | some u =>
          have z2 := F'.keep b u z
          have z3 := J.bk b u z
          rw [eb] at z3
          cases z3
          exact z2
        | none =>
          refine (N' (b, o) (List.mem_cons_of_mem _ (List.mem_filter.mpr ⟨mem_allNews b1 z eb, ?_⟩))).1
          simp [b2, b3]
      obtain ⟨ps, hp1, hp2, hp3⟩ := k'
      have hmem : ∀ u ∈ out.toList, RelV (bkV u) u := fun u hu => by
        rw [hp2] at hu
        obtain ⟨pr, hpr, rfl⟩ := List.mem_map.mp hu
        have := hp1.mem_iff.mp hpr
        exact vals_all rv _ (List.of_mem_zip this).2
      have hlenO : (out.toList.map bkV).length ≤ sizeLine := by
        rw [List.length_map, hp2, List.length_map, hp1.length_eq, List.length_zip]
        omega
      have ha' : h'.get? a = some (seqObj "list" out c) := (N' (a, seqObj "list" out c) List.mem_cons_self).1
      have F'ns := F'.ns
      have fin : Inv X pins σ (upd H' a (.lst (out.toList.map bkV))) { s' with heap := h', toks := tk } := by
        obtain ⟨h9, gn9, dr9, tk9, os9⟩ := s'
        refine J.step (g' := gn9) (d' := dr9) (t' := tk) (ch := [kS, a]) (fun b hb => ?_) (fun b o b1 b2 b3 eb nb => ?_) (fun b o b1 b2 b3 eb nb => ?_) (fun b o b3 eb nb => ?_) (fun b o b3 eb => ?_) (fun b xs eb => ?_) (fun b o u eb => ?_) (fun b xs eb => ?_) (fun m' hm => ?_) (fun b u eb => ?_) J.bare
        · rcases List.mem_cons.mp hb with rfl | hb
          · exact ⟨fpk.2.2.2.1, fpk.2.1, fpk.2.2.2.2.1, fpk.2.2.2.2.2⟩
          · rw [List.mem_singleton.mp hb]
            exact ⟨fpa.2.2.2.1, fpa.2.1, fpa.2.2.2.2.1, fpa.2.2.2.2.2⟩
        · exact key b o b1 (fun z => b3 (by simp [z])) (fun z => b3 (by simp [z])) eb
        · exact ⟨o.slots, key b o b1 (fun z => b3 (by simp [z])) (fun z => b3 (by simp [z])) eb⟩
        · rw [upd_ne (fun z => b3 (by simp [z]))]
          exact nb
        · by_cases bL : b = X.env.locals
          · obtain ⟨o', _, _, ho', _⟩ := F'ns
            exact ⟨o', by rw [bL]; exact ho'⟩
          · exact ⟨o, key b o bL (fun z => b3 (by simp [z])) (fun z => b3 (by simp [z])) eb⟩
        · rw [upd_ne (ne_of_none eb n2)]
          exact eb
        · rw [upd_ne (ne_of_none eb n2)]
          exact eb
        · exact ⟨#[], by rw [upd_ne (ne_of_none eb n2), eb]; simp⟩
        · rw [ns_fun hm hF.ns]
          exact F'ns
        · by_cases hb : b = a
          · subst hb
            rw [upd_same] at eb
            cases eb
            exact ⟨hlenO, out.toList, c, vals_map hmem, by rw [Array.toArray_toList]; exact ha'⟩
          · rw [upd_ne hb] at eb
            have nL : ∀ {y w}, H' y = some w → y ≠ X.env.locals := fun z q => by
              have := J.free
              rw [← q, z] at this
              cases this
            refine (J.hok b u eb).stay (fun y v hy ey => ?_) (fun y ey => by rw [upd_ne (ne_of_none ey n2)]; exact ey) (fun y xs ey => by rw [upd_ne (ne_of_none ey n2)]; exact ey)
            have hy' : ∃ w, H' y = some w := by
              rcases hy with rfl | hy
              · exact ⟨_, eb⟩
              · exact ⟨_, hy⟩
            obtain ⟨w', hw⟩ := hy'
            exact key y v (nL hw) (ne_of_none hw n1) (ne_of_none hw n2) ey
      refine wpAny_pure ⟨_, rfl, .ref a, upd H' a (.lst (out.toList.map bkV)), fin, rfl, q _ _ _ rel n2 ?_⟩
      · refine ⟨ps.map fun pr => (pr.1, bkV pr.2), ?_, ?_, ?_⟩
        · have := hp1.map fun pr : Int × Value => (pr.1, bkV pr.2)
          refine this.trans (List.Perm.of_eq ?_)
          rw [← bkV_map rv, List.zip_map_right]
          rfl
        · rw [hp2, List.map_map, List.map_map]
          rfl
        · rw [List.pairwise_map]
          refine hp3.imp fun {p q} h => ?_
          simpa using h
end
end Pw

set_option maxHeartbeats 4000000
/-! a lambda of one parameter that captures nothing: made, called -/
namespace Pw
open PySem PySem.Spec PyProof.Rows L2 LamX
def LamO (f : Addr) (params : Arguments) (body : Expr) (scope : Scope) (qual : Str) (c' : Addr) : HO := .ext fun h => ∃ pm ctv : Value, h.get? f = some (PySem.W.kla_obj "<lambda>" qual params body scope [] pm c' ctv)
theorem cloFrom_nil (cells : List (Str × Addr)) : ∀ (names : List (Str × NameKind)) (acc : List (Str × Addr)), (∀ y ∈ names, y.2 ≠ .free) → cloFrom cells names acc = acc
  | [], _, _ => rfl
  | (n, k) :: r, acc, h => by
    unfold cloFrom
    have hk : k ≠ .free := h (n, k) List.mem_cons_self
    rw [if_neg (by simpa using hk)]
    exact cloFrom_nil cells r acc fun y hy => h y (List.mem_cons_of_mem _ hy)
section
variable {X : Cx} {pins : List (Addr × Obj)} {σ : L2.St} {H : Hp} {s : Shared}
theorem inv_lam {params : Arguments} {body : Expr} {scope : Scope} {qual : Str} {c' : Addr} {t' : Nat} {pm ctv : Value} {o : Obj} (I : Inv X pins σ H s) (ho : o = PySem.W.kla_obj "<lambda>" qual params body scope [] pm c' ctv) :
    Inv X pins σ (upd H s.heap.objs.size (LamO s.heap.objs.size params body scope qual c')) { s with heap := s.heap.push o, toks := t' } := by
  subst ho
  refine I.laid (a := s.heap.objs.size) (fun b u e => Heap.get?_push_of_some _ e) (Nat.le_refl _) ?_
  have e : (s.heap.push (PySem.W.kla_obj "<lambda>" qual params body scope [] pm c' ctv)).get? s.heap.objs.size = some (PySem.W.kla_obj "<lambda>" qual params body scope [] pm c' ctv) := Heap.get?_push_size _ rfl
  exact ⟨⟨pm, ctv, e⟩, ⟨_, e⟩, fun h1 h2 ⟨p, t, z⟩ st => ⟨p, t, st _ z⟩⟩
/-- the table at P grows by one code object -/
abbrev grown (H : Hp) (P : Addr) (ps : Array Value) (pos : Pos) (c : Addr) (q : Str) : Hp := upd (upd H P (.tbl (ps ++ #[rawInt pos.line, rawInt pos.col, .ref c]))) c (CodeO c q)
theorem grown_ok {T : List (Addr × Str)} {P c : Addr} {q : Str} {ps : Array Value} (pos : Pos) (gP : H P = some (.tbl ps)) (tr : TriplesOk ps.toList) (only : ∀ p ∈ T, p.1 = P → p.2 = q) (TT : Tabs T H) (here : (P, q) ∈ T) (new : H c = none) :
    ExtN H (grown H P ps pos c q) ∧ Tabs T (grown H P ps pos c q) := by
  have stays : ExtN H (grown H P ps pos c q) := by
    intro b o e nt
    have bP : b ≠ P := by
      intro z
      subst z
      exact nt ps (Option.some.inj (e.symm.trans gP))
    show upd (upd H P _) c _ b = some o
    rw [upd_ne (ne_of_none e new), upd_ne bP, e]
  have told : ∀ {r : Str} {d : Addr}, H d = some (CodeO d r) → grown H P ps pos c q d = some (CodeO d r) := fun e => stays _ _ e codeO_ne
  refine ⟨stays, fun p mem => ?_⟩
  obtain ⟨qs, g1, g2, g3⟩ := TT p mem
  rcases Decidable.em (p.1 = P) with same | other
  · rw [same] at g1
    cases gP.symm.trans g1
    have flat : (ps ++ #[rawInt pos.line, rawInt pos.col, .ref c]).toList = ps.toList ++ [rawInt pos.line, rawInt pos.col, .ref c] := Array.toList_append
    refine ⟨ps ++ #[rawInt pos.line, rawInt pos.col, .ref c], ?_, flat ▸ PySem.TriplesOk_snoc _ _ _ _ tr, fun p' v got => ?_⟩
    · rw [same]
      exact (upd_ne (ne_of_none gP new)).trans upd_same
    · rcases among_app _ tr (flat ▸ got) with old | fresh
      · obtain ⟨d, e, k⟩ := g3 p' v old
        exact ⟨d, e, told k⟩
      · exact ⟨c, fresh, by rw [only p mem same]; exact upd_same⟩
  · refine ⟨qs, (upd_ne (ne_of_none g1 new)).trans ((upd_ne other).trans g1), g2, fun p' v got => ?_⟩
    obtain ⟨d, e, k⟩ := g3 p' v got
    exact ⟨d, e, told k⟩
/-- what goes on with the function f that a lambda makes -/
def LamGo (X : Cx) (pins : List (Addr × Obj)) (σ : L2.St) (H : Hp) (T : List (Addr × Str)) (params : Arguments) (body : Expr) (scope : Scope) (q : Str) (Q : Value → Shared → Prop) : Prop :=
  ∀ (f c' : Addr) (H1 : Hp) (s' : Shared), Inv X pins σ H1 s' → ExtN H H1 → (∀ b, H1 b = none → H b = none) → Tabs T H1 → H f = none → H1 f = some (LamO f params body scope q c') → H1 c' = some (CodeO c' q) → Q (.ref f) s'
/-- the function object is laid behind the heap H1 that knows its code -/
theorem LamGo.seat {T : List (Addr × Str)} {params : Arguments} {body : Expr} {scope : Scope} {q : Str} {Q : Value → Shared → Prop} {H1 : Hp} {z : Shared} {c' : Addr} {pm ctv : Value} (go : LamGo X pins σ H T params body scope q Q) (J : Inv X pins σ H1 z)
    (up : ExtN H H1) (down : ∀ b, H1 b = none → H b = none) (TT : Tabs T H1) (code : H1 c' = some (CodeO c' q)) : Q (.ref z.heap.objs.size) { z with heap := z.heap.push (PySem.W.kla_obj "<lambda>" q params body scope [] pm c' ctv) } := by
  have free : H1 z.heap.objs.size = none := J.hok.fresh (Nat.le_refl _)
  have over : ∀ b o, H1 b = some o → upd H1 z.heap.objs.size (LamO z.heap.objs.size params body scope q c') b = some o := fun b o e => (upd_ne (ne_of_none e free)).trans e
  exact go _ c' _ _ (inv_lam (t' := z.toks) J rfl) (fun b o e nt => over b o (up b o e nt)) (fun b e => down b (upd_no e)) (TT.ext over) (down _ free) upd_same (over _ _ code)
theorem lam_make3 {T : List (Addr × Str)} {c P : Addr} {params : Arguments} {body : Expr} {scope : Scope} {pos : Pos} {E : Value → Shared → Prop} {Q : Value → Shared → Prop} (I : Inv X pins σ H s) (TB : TabB X.base X.mg c P) (hcode : X.env.code = .ref c)
    (hm : (P, X.env.qual ++ "<lambda>") ∈ T) (hu : ∀ p ∈ T, p.1 = P → p.2 = X.env.qual ++ "<lambda>") (hT : Tabs T H) (hdef : defaultsOf params X.env = ([], [])) (hnf : ∀ y ∈ scope.names, y.2 ≠ .free)
    (go : LamGo X pins σ H T params body scope (X.env.qual ++ "<lambda>") Q) : wpAny (model X.prog X.w) X.A (eval (.Lambda params body scope pos) X.env) Q E s := by
  have clo : closureFor scope X.env = pure [] := by
    have z := closure_ok (scope := scope) (env := X.env) fun y mem e => (hnf y mem e).elim
    rwa [cloFrom_nil _ _ _ hnf] at z
  obtain ⟨ps, gP, tr, known⟩ := hT _ hm
  have atP := I.hok P _ gP
  have glob := I.mod.glob.keeps I.bk
  have codeK := TB.code.keeps I.bk
  have bmK := TB.bm.keeps I.bk
  refine PySem.W.kla_eval hdef ?_
  rcases hc : codeAmong pos ps.toList with _ | cv
  · refine PySem.W.kla_makeFunction (mg := X.mg) (c := c) (P := P) (ps := ps) clo I.ok.glob glob hcode codeK atP tr hc TB.gP bmK fun c' ctv h' tk keep new _ ⟨_, oc, vs, t, e, k1, k2, k3⟩ tab => ?_
    cases e
    have free : H c' = none := I.hok.fresh new
    obtain ⟨up, TT⟩ := grown_ok pos gP tr hu hT hm free
    exact go.seat (z := { s with heap := h', toks := tk }) (inv_table I gP (fun b o n e => keep b o n e) tab new ⟨oc, vs, t, k1, k2, k3⟩) up (fun b e => upd_no (upd_no e)) TT upd_same
  · obtain ⟨c', rfl, code⟩ := known pos cv hc
    refine PySem.W.kla_makeFunctionHit (mg := X.mg) (c := c) (P := P) (ps := ps) clo I.ok.glob glob hcode codeK atP tr hc bmK fun ctv h' tk keep _ => ?_
    exact go.seat (z := { s with heap := h', toks := tk }) (I.kept keep) (fun b o e _ => e) (fun b e => e) hT code
/-- its making, as a reading -/
def tLam (T : List (Addr × Str)) (params : Arguments) (body : Expr) (scope : Scope) (qual : Str) : TE := fun _ H Q => Tabs T H ∧ ∀ (f c' : Addr) (H1 : Hp), Mod T [] H H1 → H f = none → H1 f = some (LamO f params body scope qual c') → H1 c' = some (CodeO c' qual) → Q (.ref f) H1
theorem pe_lam {T : List (Addr × Str)} {c P : Addr} {params : Arguments} {body : Expr} {scope : Scope} {pos : Pos} (TB : TabB X.base X.mg c P) (hcode : X.env.code = .ref c)
    (hm : (P, X.env.qual ++ "<lambda>") ∈ T) (hu : ∀ p ∈ T, p.1 = P → p.2 = X.env.qual ++ "<lambda>") (hdef : defaultsOf params X.env = ([], [])) (hnf : ∀ y ∈ scope.names, y.2 ≠ .free) :
    PE X (.Lambda params body scope pos) (tLam T params body scope (X.env.qual ++ "<lambda>")) := by
  refine ⟨fun pins s σ H Q I h => ?_⟩
  obtain ⟨hT, h⟩ := h
  exact lam_make3 I TB hcode hm hu hT hdef hnf fun f c' H1 s' I1 e old t f0 f1 c1 => ⟨.ref f, H1, I1, rfl, h f c' H1 ⟨fun b o _ n hb => e b o hb n, fun _ => t, old⟩ f0 f1 c1⟩
end
/-- its call -/
theorem lam_run {P : Program} {w : World} {K : PySem.W.Frag} {mg : Str → Option Value} {base : Heap} {A : Around} {outer : List Env} {s : Shared} {H : Hp} {f c' : Addr} {params : Arguments} {body : Expr} {scope : Scope} {qual x : Str} {N : List Str} {k : Nat} {v : V} {u : Value} {Q : VK} {E : XK}
    (S : FnScope N [x] scope) (hb : ∀ (pm ctv u : Value), bindArgs (PySem.W.kla_fn "<lambda>" qual params body scope [] pm (.ref c') ctv) ⟨[u], []⟩ = pure [(x, u)]) (hr : Room (k + 1) A) (e0 : Env0 P w K mg base A outer s H)
    (hf : H f = some (LamO f params body scope qual c')) (hc : H c' = some (CodeO c' qual)) (r : RelV v u)
    (hbody : Room k (A.deeper (envOfC qual scope s.heap.objs.size f (.ref c'))) → ∃ t, PE (cxOf C8.CX0 P w K mg base N qual scope f (.ref c') A outer s H E).nox body t ∧ t (start N [v]) H Q) :
    codeAny (model P w) A (.call (.ref f) ⟨[u], []⟩) (CR C8.CX0 outer P w H s Q E) s := by
  obtain ⟨⟨pm, ctv, ho⟩, _, _⟩ := e0.hok f _ hf
  obtain ⟨⟨oc, vs, tq, h1, h2, h3⟩, _, _⟩ := e0.hok c' _ hc
  have lim : s.heap.NoLimit := e0.mod.nolimit.keeps fun b o e => (e0.bs b o e).1
  have hkind : ∀ y ∈ [(x, u)], scope.names.lookup y.1 = some .local ∨ (scope.names.lookup y.1 = some .cell ∧ ((cellsFrom (s.heap.objs.size + 1) scope.names []).lookup y.1).isSome = true) := fun y hy => by
    rw [List.mem_singleton.mp hy]
    rcases S.par x List.mem_cons_self with q | q
    · exact .inl q
    · exact .inr ⟨q, PySem.W.cellsFrom_some _ _ _ (.inl q)⟩
  refine PySem.W.kla_callFunE hr.depth ho rfl S.co S.gen rfl ⟨c', oc, vs, tq, rfl, h1, h2, h3⟩ ?_
  rw [hb]
  refine wpAny_pure ?_
  refine wpAny_newFunctionEnv_cells S.kind hkind fun env he s1 x => ?_
  subst he
  refine ⟨lim.keeps x.toInCall.keep, PySem.W.kla_codeExpr ?_⟩
  obtain ⟨t, ht, hq⟩ := hbody (hr.deeper _)
  have I : Inv (cxOf C8.CX0 P w K mg base N qual scope f (.ref c') A outer s H E) [] (start N [v]) H s1 := inv_start (us := [u]) S hr.hd e0 rfl (.cons r .nil) x
  refine wpAny_mono ((PE.nox ht).run [] s1 (start N [v]) H _ I hq) (fun z s' hs => ?_) fun e s' hs => hs
  obtain ⟨y, H', J, rv, q⟩ := hs
  exact ⟨y, H', J.os, J.bare, J.base, J.hok, rv, q⟩
/-- sorted(l, key=lambda x: ..) -/
def rSortedLam (K : PySem.W.Frag) (T : List (Addr × Str)) (params : Arguments) (body : Expr) (scope : Scope) (qual : Str) (N : List Str) (t : TE) : List V → List V → Hp → VK → Prop := fun xs zs H Q =>
  ∃ (l f c' : Addr) (ss : List V) (ks : List Int), xs = [.ref l] ∧ zs = [.ref f] ∧ SqL K H l ss ∧ H f = some (LamO f params body scope qual c') ∧ H c' = some (CodeO c' qual) ∧ ks.length = ss.length ∧
    (∀ (i : Nat) (x : V) (k : Int), ss[i]? = some x → ks[i]? = some k → ∀ (H1 : Hp) (Q' : VK), (∀ H2, Mod T [] H1 H2 → Q' (.int k) H2) → t (start N [x]) H1 Q') ∧
    ∀ out H' p, Mod T [] H H' → H' p = none → (∃ ps : List (Int × V), ps.Perm (ks.zip ss) ∧ out = ps.map (·.2) ∧ ps.Pairwise (fun p q => p.1 ≤ q.1)) → Q (.ref p) (upd H' p (.lst out))
theorem cr_sortedLam {X : Cx} {T : List (Addr × Str)} {params : Arguments} {body : Expr} {scope : Scope} {qual x : Str} {N : List Str} {t : TE} {k : Nat} (S : FnScope N [x] scope) (hb : ∀ (c' : Addr) (pm ctv u : Value), bindArgs (PySem.W.kla_fn "<lambda>" qual params body scope [] pm (.ref c') ctv) ⟨[u], []⟩ = pure [(x, u)])
    (hr : Room (k + 3) X.A) (hbody : ∀ (f c' : Addr) (A : Around) (outer : List Env) (s : Shared) (H : Hp) (E : XK), Room k (A.deeper (envOfC qual scope s.heap.objs.size f (.ref c'))) → PE (cxOf C8.CX0 X.prog X.w X.K X.mg X.base N qual scope f (.ref c') A outer s H E).nox body t) :
    CallRK X (.builtin "sorted") [Str.ofString "key"] (rSortedLam X.K T params body scope qual N t) := by
  intro pins s σ H xs zs us ws Q I r rz h
  obtain ⟨l, f, c', ss, ks, rfl, rfl, hl, hf, hc, hlen, ht, q⟩ := h
  obtain ⟨u1, rfl, e1⟩ := vals1 r
  obtain ⟨u2, rfl, e2⟩ := vals1 rz
  cases e1
  cases e2
  refine sorted_by I hl hlen (fun H' => Mod T [] H H') (Mod.refl H) (fun i x k v pins' s' H' hx hk rx I' m => ?_) q
  have hf' : H' f = some (LamO f params body scope qual c') := m.at0 (fun ps z => by unfold LamO at z; cases z) hf
  have hc' : H' c' = some (CodeO c' qual) := m.at0 (fun ps z => by unfold CodeO at z; cases z) hc
  refine wpAny_call (codeAny_mono (lam_run (Q := fun y H2 => y = .int k ∧ Mod T [] H H2) (E := fun _ _ _ => False) S (hb c') hr.in1.in1 I'.env0.in1.in1 hf' hc' rx fun hr' => ⟨t, hbody _ _ _ _ _ _ _ hr', ht i x k hx hk H' _ fun H2 m2 => ⟨rfl, m.trans m2⟩⟩) fun r s'' hq => ?_)
  cases r with
  | error e => exact (show False from hq)
  | ok fl =>
    cases fl with
    | ret u =>
      obtain ⟨y, H2, J, ry, rfl, m2⟩ := I'.after hq
      obtain ⟨t, rfl⟩ := ry
      exact ⟨H2, t, J, rfl, m2⟩
    | next => exact False.elim hq
    | brk => exact False.elim hq
    | cont => exact False.elim hq
end Pw

set_option maxHeartbeats 4000000
namespace Pw
open PySem PySem.Spec PyProof.Rows L2 LamX
/-! shelves, sorted by their numbers -/
def selN (fs : Fs) : List Nat := fs.filterMap fun kv => shNo kv.1
theorem shelves_sorted {fs : Fs} {ps : List (Int × V)} (hp : ps.Perm ((selN fs).map fun n => (((n : Nat) : Int), V.str (shPath n)))) (hs : ps.Pairwise fun p q => p.1 ≤ q.1) : ps.map (·.2) = (shelvesOf fs).map V.str := by
  have hall : ∀ pr ∈ ps, pr = (((pr.1.toNat : Nat) : Int), V.str (shPath pr.1.toNat)) := fun pr h => by
    obtain ⟨n, _, rfl⟩ := List.mem_map.mp (hp.mem_iff.mp h)
    rfl
  have e1 : ps.map (·.2) = (ps.map fun pr => pr.1.toNat).map fun n => V.str (shPath n) := by
    rw [List.map_map]
    refine List.map_congr_left fun pr h => ?_
    rw [hall pr h]
    rfl
  have e2 : (ps.map fun pr => pr.1.toNat) = nums fs := by
    unfold nums
    refine sortN_of ?_ ?_
    · have := hp.map fun pr : Int × V => pr.1.toNat
      refine this.trans (List.Perm.of_eq ?_)
      rw [List.map_map]
      exact List.map_id'' (fun _ => rfl) _
    · rw [List.pairwise_map]
      exact hs.imp fun {p q} h => by omega
  rw [e1, e2]
  unfold shelvesOf
  rw [List.map_map]
  rfl
def selP (l : Fs) : List Str := (selN l).map shPath
theorem selN_snoc (l : Fs) (q : Str × Str) : selN (l ++ [q]) = selN l ++ (match shNo q.1 with | some n => [n] | none => []) := by
  unfold selN
  rw [List.filterMap_append]
  congr 1
  cases h : shNo q.1 <;> simp [h]
theorem selP_yes {l : Fs} {q : Str × Str} (h : (shNo q.1).isSome = true) : selP (l ++ [q]) = selP l ++ [q.1] := by
  unfold selP
  rw [selN_snoc]
  cases e : shNo q.1 with
  | none =>
    rw [e] at h
    cases h
  | some n =>
    rw [List.map_append, (shNo_some e).1]
    rfl
theorem selP_no {l : Fs} {q : Str × Str} (h : shNo q.1 = none) : selP (l ++ [q]) = selP l := by
  unfold selP
  rw [selN_snoc, h, List.append_nil]
theorem selP_len (l : Fs) : (selP l).length ≤ l.length := by
  unfold selP selN
  rw [List.length_map]
  exact List.length_filterMap_le _ _
theorem take_snoc {α : Type} {l : List α} {i : Nat} {x : α} (h : l[i]? = some x) : l.take (i + 1) = l.take i ++ [x] := by
  rw [List.take_add_one, h]
  rfl

variable {P : Program} {w : World} {K : PySem.W.Frag} {mg : Str → Option Value} {base : Heap} {T : List (Addr × Str)}
def spIs (T : List (Addr × Str)) : Sp := fun vs H Q _ => ∃ p : Str, vs = [.str p] ∧ p.length ≤ 26 ∧ ∀ H', Mod T [] H H' → Q (.bl (shNo p).isSome) H'
theorem sc_is : FnScope ["path"] ["path"] (defScope s_is_shelf) := ⟨rfl, rfl, rfl, by decide +kernel, rfl, by decide +kernel, by decide +kernel⟩
theorem noV_non (o : Option Nat) : (!decide (noV o = V.non)) = o.isSome := by
  cases o <;> simp [noV]
theorem ok_is (D : PwDef K mg "is_shelf" s_is_shelf) (cN : Cal P w K mg base 1 "number_behind" (spNb T) []) (mS : ∃ t, mg "SHELF" = some (.str SH t)) : Cal P w K mg base 2 "is_shelf" (spIs T) [] := by
  obtain ⟨tS, mS⟩ := mS
  refine cal_of D sc_is (fun _ _ _ _ _ _ us hl => match us, hl with | [_], _ => rfl) (fun vs H Q E h => ?_) (fun f cdv A outer s H vs Q E hr h => ?_)
  · obtain ⟨p, rfl, _⟩ := h
    rfl
  · obtain ⟨p, rfl, hp, q⟩ := h
    refine ⟨_, pss_one (ps_ret (pe_cmp (pc_notN (C8.pe_c cN hr (by decide) rfl (pa_cons (pv 0) (pa_cons (pe_glob (v := .str SH) rfl mS ⟨_, rfl⟩) pa_nil)))) rfl)), ?_⟩
    refine ⟨_, rfl, p, rfl, hp, fun H' m => ?_⟩
    show Q (.bl (!decide (noV (shNo p) = V.non))) H'
    rw [noV_non]
    exact q H' m

/-- the dict at a holds fs -/
def FsAt (H : Hp) (a : Addr) (fs : Fs) : Prop := H a = some (.dK (dS fs))
def lamE : Expr := match defBody s_shelves with
  | [.Return (some (.Call _ _ [k] _)) _] => k.value
  | _ => .Constant .none 0 ⟨0, 0, 0, 0⟩
def lamP : Arguments := match lamE with
  | .Lambda p _ _ _ => p
  | _ => ⟨[], [], none, [], [], none, []⟩
def lamB : Expr := match lamE with
  | .Lambda _ b _ _ => b
  | _ => .Constant .none 0 ⟨0, 0, 0, 0⟩
def lamS : Scope := match lamE with
  | .Lambda _ _ s _ => s
  | _ => ⟨.function, [], false, false, []⟩
def lamQ : Str := (("shelves" : Str) ++ ".<locals>.") ++ "<lambda>"
theorem sc_lam : FnScope ["path"] ["path"] lamS := ⟨rfl, rfl, rfl, by decide +kernel, rfl, by decide +kernel, by decide +kernel⟩
theorem sc_sh : FnScope ["files", "path"] ["files"] (defScope s_shelves) := ⟨rfl, rfl, rfl, by decide +kernel, rfl, by decide +kernel, by decide +kernel⟩
/-- the def with its code object -/
structure PwDefC (K : PySem.W.Frag) (mg : Str → Option Value) (x : Str) (st : Stmt) (c : Addr) : Prop where
  ex : ∃ (f : Addr) (fd : FuncData), FunD K x x (defArgs st) (defBody st) (defScope st) [] [] f fd ∧ mg x = some (.ref f) ∧ fd.code = .ref c
theorem cal_ofC {P : Program} {w : World} {K : PySem.W.Frag} {mg : Str → Option Value} {base : Heap} {x : Str} {st : Stmt} {c : Addr} {N ps : List Str} {k : Nat} {sp : Sp} (D : PwDefC K mg x st c) (S : FnScope N ps (defScope st))
    (hb : ∀ (kV doc pm : Value) (an : Option Addr) (cdv ct : Value) (us : List Value), us.length = ps.length → bindArgs (PySem.W.fnOf x x (defArgs st) (defBody st) (defScope st) .none kV doc pm an cdv ct) ⟨us, []⟩ = pure (ps.zip us))
    (len : ∀ vs H Q E, sp vs H Q E → vs.length = ps.length)
    (hbody : ∀ (f : Addr) (A : Around) (outer : List Env) (s : Shared) (H : Hp) (vs : List V) (Q : VK) (E : XK), Room k (A.deeper (envOfC x (defScope st) s.heap.objs.size f (.ref c))) → sp vs H Q E →
      ∃ t, PSs (cxOf C8.CX0 P w K mg base N x (defScope st) f (.ref c) A outer s H E).nox (defBody st) t ∧ t { nx := fun _ H' => Q .non H', rt := Q } (start N vs) H) : Cal P w K mg base (k + 1) x sp [] := by
  obtain ⟨f, fd, F, hm, hc⟩ := D.ex
  obtain ⟨oc, od, dV, kV, doc, pm, an, cdv, ct, osl, rfl, lk, hcd, _, _⟩ := id F.ex
  have hc : cdv = .ref c := hc
  subst hc
  exact ⟨f, _, ps, [], fn_of lk hcd S len fun A outer s H vs Q E hr h => by
    obtain ⟨t, h1, h2⟩ := hbody f A outer s H vs Q E hr h
    exact ⟨t, h1.nox, h2⟩, hm, F.kp, F.bindsN hb, .nil⟩
def spSh (T : List (Addr × Str)) : Sp := fun vs H Q _ => ∃ (a : Addr) (fs : Fs), vs = [.ref a] ∧ FsAt H a fs ∧ FOk 1000 fs ∧ Tabs T H ∧ ∀ H' p, Mod T [] H H' → H p = none → H' p = some (.lst ((shelvesOf fs).map V.str)) → Q (.ref p) H'
theorem ok_sh {c tb : Addr} (D : PwDefC K mg "shelves" s_shelves c) (TB : TabB base mg c tb) (cI : Cal P w K mg base 2 "is_shelf" (spIs [(tb, lamQ)]) []) (cN : Cal P w K mg base 1 "number_behind" (spNb [(tb, lamQ)]) [])
    (mS : ∃ t, mg "SHELF" = some (.str SH t)) (ms : mg "sorted" = none) : Cal P w K mg base 5 "shelves" (spSh [(tb, lamQ)]) [] := by
  obtain ⟨tS, mS⟩ := mS
  refine cal_ofC D sc_sh (fun _ _ _ _ _ _ us hl => match us, hl with | [_], _ => rfl) (fun vs H Q E h => ?_) (fun f A outer s H vs Q E hr h => ?_)
  · obtain ⟨a, fs, rfl, _⟩ := h
    rfl
  · obtain ⟨a, fs, rfl, hA, hok, hT, q⟩ := h
    have hA : H a = some (.dK (dS fs)) := hA
    refine ⟨_, pss_one (ps_ret (pe_callBK (cr_sortedLam (T := [(tb, lamQ)]) (params := lamP) (body := lamB) (scope := lamS) (qual := lamQ) (k := 1) sc_lam (fun _ _ _ _ => rfl) hr
          (fun f' c' A' outer' s' H' E' hr' => C8.pe_c cN hr' (by decide) rfl (pa_cons (pv 0) (pa_cons (pe_glob (v := .str SH) rfl mS ⟨_, rfl⟩) pa_nil)))) (by rfl) ms (by decide +kernel)
        (pa_cons (pe_lock (pe_lc (own := [("path", 1)]) (g := gName 1) (tt := _) (by rfl) sc_sh.nd (pi_keys (pv 0)) (blkOk_by (own := [("path", 1)]) (N := ["files", "path"]) (sc := defScope s_shelves) (by decide +kernel)) (fun _ _ _ _ _ => pg_name (i := 1) sc_sh.nd rfl (Or.inl rfl))
          (fun _ _ _ _ _ => pts_one (pt_val (C8.pe_c cI hr (by decide) rfl (pa_cons (pv 1) pa_nil)))) (fun _ _ _ _ _ => pv 1))) pa_nil)
        (pk_cons (pe_lam (T := [(tb, lamQ)]) (params := lamP) (body := lamB) (scope := lamS) TB rfl List.mem_cons_self (fun p hp _ => by rw [List.mem_singleton.mp hp]; rfl) rfl (by decide +kernel)) pk_nil))), ?_⟩
    -- [path for path in files if is_shelf(path)]
    refine ⟨a, _, hA, trivial, fun od => ?_⟩
    have lk : ∀ (b : Addr) (o : HO), b ≠ a → (upd H a (.frz od (.dK (dS fs)))) b = some o → H b = some o := fun b o hb e => by
      rw [upd_ne hb] at e
      exact e
    refine ⟨_, rfl, a, od, rfl, .inl ⟨dS fs, upd_same, fun B hB => ?_⟩⟩
    have nBa : B ≠ a := fun z => by
      rw [z, upd_same] at hB
      cases hB
    refine lc_it walk_keys (fun i H' => Mod [(tb, lamQ)] [] (upd H a (.frz od (.dK (dS fs)))) H' ∧ H' B = some (.lst ((selP (fs.take i)).map V.str))) ⟨Mod.new hB, upd_same⟩ (fun i H' _ hp => hp.1.at0 noT_frz upd_same) (fun i x H1 H2 hi hp hy => ?_) (fun H1 hp => ?_)
    · obtain ⟨m, e⟩ := hp
      obtain ⟨rfl, k, v, hk, rfl⟩ := hy
      rw [get_dk] at hk
      obtain ⟨kv, hkv, hkk⟩ := Option.map_eq_some_iff.mp hk
      cases hkk
      have g := hok.gd kv (List.mem_of_getElem? hkv)
      refine ⟨rfl, ?_⟩
      refine ⟨_, rfl, kv.1, rfl, g.1.1, fun H3 m3 => ⟨_, rfl, ?_⟩⟩
      have e3 := m3.lst e
      refine ite2 (fun h => ?_) (fun h => ?_)
      · refine ⟨_, rfl, _, e3, ?_, (m.trans m3).own hB e3 pl_lst, ?_⟩
        · rw [List.length_map]
          refine small_lt (Nat.lt_of_le_of_lt (selP_len _) ?_)
          rw [List.length_take]
          have := hok.len
          omega
        · rw [upd_same, take_snoc hkv, selP_yes h, List.map_append]
          rfl
      · refine ⟨m.trans m3, ?_⟩
        rw [take_snoc hkv, selP_no (by cases z : shNo kv.1 with
          | none => rfl
          | some n => rw [z] at h; exact absurd rfl h)]
        exact e3
    · obtain ⟨m, e⟩ := hp
      rw [len_dk, List.take_of_length_le (Nat.le_refl _)] at e
      have ea : H1 a = some (.frz od (.dK (dS fs))) := m.at0 noT_frz upd_same
      refine ⟨ea, ?_⟩
      have mU : Mod [(tb, lamQ)] [] H (upd H1 a (.dK (dS fs))) := Mod.unlock hA pl_dK m ea
      have eB : (upd H1 a (.dK (dS fs))) B = some (.lst ((selP fs).map V.str)) := by
        rw [upd_ne nBa]
        exact e
      generalize upd H1 a (.dK (dS fs)) = H2 at mU eB
      refine ⟨mU.tabs hT, fun f' c' H3 m3 f0 f1 c1 => ?_⟩
      refine ⟨B, f', c', (selP fs).map V.str, (selN fs).map fun n => ((n : Nat) : Int), rfl, rfl, SqL.of (m3.lst eB), f1, c1, by unfold selP; rw [List.length_map, List.length_map, List.length_map], fun i x k hx hk H4 Q' hq => ?_, fun out H5 p m5 n5 hps => ?_⟩
      · rw [List.getElem?_map] at hx hk
        obtain ⟨n, hn, rfl⟩ := Option.map_eq_some_iff.mp hk
        obtain ⟨y, hy, rfl⟩ := Option.map_eq_some_iff.mp hx
        unfold selP at hy
        rw [List.getElem?_map, hn] at hy
        have hy : shPath n = y := Option.some.inj hy
        subst hy
        have hmem : n ∈ selN fs := List.mem_of_getElem? hn
        obtain ⟨kv, hkv, e1⟩ := List.mem_filterMap.mp hmem
        obtain ⟨e2, e3⟩ := shNo_some e1
        refine ⟨_, rfl, shPath n, rfl, (gd_path e3).1, fun H6 m6 => ?_⟩
        rw [shNo_path e3]
        exact hq H6 m6
      · obtain ⟨ps, h1, rfl, h3⟩ := hps
        have ez : ((selN fs).map fun n => ((n : Nat) : Int)).zip ((selP fs).map V.str) = (selN fs).map fun n => (((n : Nat) : Int), V.str (shPath n)) := by
          unfold selP
          rw [List.map_map, List.zip_map', ]
          rfl
        rw [ez] at h1
        rw [shelves_sorted h1 h3]
        have mF := (mU.trans m3).trans m5
        exact q _ p (mF.new' n5) (mF.old p n5) upd_same
end Pw

set_option maxHeartbeats 4000000
namespace Pw
open PySem PySem.Spec PyProof.Rows L2 LamX
/-- a dict comprehension over it -/
theorem dc_it {J : It} {n : Nat} {G : Hp → Prop} {Y : Nat → Hp → V → Hp → Prop} (w : Walk J n G Y) {g : TG} {tt : TT} {tk tv : TE} {vs : List Nat} {σ : L2.St} {H1 : Hp} {D : Addr} {Qd : Hp → Prop} (Pv : Nat → Hp → Prop) (h0 : Pv 0 (upd H1 D (.dK []))) (hG : ∀ i H, i ≤ n → Pv i H → G H)
    (hs : ∀ i x H H', i < n → Pv i H → Y i H x H' → g x (wipe σ vs) H' fun σ2 H2 => wipe σ2 vs = wipe σ vs ∧ tt σ2 H2 fun b H3 =>
      if b = true then tk σ2 H3 fun y H4 => tv σ2 H4 fun z H5 => ∃ kvs k, y = kV k ∧ H5 D = some (.dK kvs) ∧ kvs.length < sizeLine ∧ Pv (i + 1) (upd H5 D (.dK (putK kvs k z))) else Pv (i + 1) H3) (hd : ∀ H, Pv n H → Qd H) :
    ∃ W : Nat → Nat → Hp → Prop, (∃ m, W 0 m (upd H1 D (.dK []))) ∧ ∀ i m H, W i m H →
      (J.stop i H ∧ Qd H) ∨ (J.go i H ∧ ∃ Nx : Hp → Prop, (∀ H', Nx H' → ∃ m', m' < m ∧ W (i + 1) m' H') ∧ ∀ x H', J.yld i H x H' → g x (wipe σ vs) H' fun σ2 H2 => wipe σ2 vs = wipe σ vs ∧ tt σ2 H2 fun b H3 =>
        if b = true then tk σ2 H3 fun y H4 => tv σ2 H4 fun z H5 => ∃ kvs k, y = kV k ∧ H5 D = some (.dK kvs) ∧ kvs.length < sizeLine ∧ Nx (upd H5 D (.dK (putK kvs k z))) else Nx H3) := by
  refine ⟨fun i m H => m = n - i ∧ i ≤ n ∧ Pv i H, ⟨n, by simp, Nat.zero_le _, h0⟩, ?_⟩
  rintro i m H ⟨rfl, hi, p⟩
  have q := hG i H hi p
  by_cases hlt : i < n
  · refine .inr ⟨w.goes i H hlt q, Pv (i + 1), fun H' p' => ⟨n - (i + 1), by omega, rfl, hlt, p'⟩, fun x H' y => hs i x H H' hlt p (w.yields i H x H' hlt q y)⟩
  · have e : i = n := by omega
    subst e
    exact .inl ⟨w.stops H q, hd H p⟩
variable {P : Program} {w : World} {K : PySem.W.Frag} {mg : Str → Option Value} {base : Heap} {T : List (Addr × Str)}
/-- a table of a list without doubles, one key more -/
theorem put_tab {f : Str → Str} {l : List Str} {c : Str} (h : c ∉ l) : put (l.map fun c => (c, f c)) c (f c) = (l ++ [c]).map fun c => (c, f c) := by
  rw [put_out, List.map_append]
  · rfl
  · rw [look_tab f, if_neg h]
theorem nd_take {l : List Str} {i : Nat} {c : Str} (nd : l.Nodup) (h : l[i]? = some c) : c ∉ l.take i := by
  intro hm
  obtain ⟨j, hj⟩ := List.mem_iff_getElem?.mp hm
  rw [List.getElem?_take] at hj
  split at hj
  · rename_i hlt
    have := (List.getElem?_inj (List.getElem?_eq_some_iff.mp hj).1 nd).mp (hj.trans h.symm)
    omega
  · cases hj
theorem dS_len (fs : Fs) : (dS fs).length = fs.length := len_dk fs
def spKept (T : List (Addr × Str)) : Sp := fun vs H Q _ => ∃ (a : Addr) (fs : Fs), vs = [.ref a] ∧ FsAt H a fs ∧ FOk 63 fs ∧ Tabs T H ∧ ∀ H' p, Mod T [] H H' → H p = none → FsAt H' p (keptOf fs) → Q (.ref p) H'
theorem sc_kept : FnScope ["files", "found", "path", "content"] ["files"] (defScope s_kept) := ⟨rfl, rfl, rfl, by decide +kernel, rfl, by decide +kernel, by decide +kernel⟩
theorem ok_kept (D : PwDef K mg "kept" s_kept) (cS : Cal P w K mg base 5 "shelves" (spSh T) []) (ms : mg "sorted" = none) : Cal P w K mg base 6 "kept" (spKept T) [] := by
  refine cal_of D sc_kept (fun _ _ _ _ _ _ us hl => match us, hl with | [_], _ => rfl) (fun vs H Q E h => ?_) (fun f cdv A outer s H vs Q E hr h => ?_)
  · obtain ⟨a, fs, rfl, _⟩ := h
    rfl
  · obtain ⟨a, fs, rfl, hA, hok, hT, q⟩ := h
    have hA : H a = some (.dK (dS fs)) := hA
    refine ⟨_, pss_cons (ps_set (i := 1) sc_kept.nd rfl (.inr rfl) pe_dnewK)
      (pss_cons (ps_for PassesOwn.never rfl (pi_list (C8.pe_c cS hr (by decide) rfl (pa_cons (pv 0) pa_nil))) (pg_name (i := 2) sc_kept.nd rfl (.inl rfl))
        (pss_one (ps_expr (pe_dsetd (pv 1) (pe_dget (hu_of hr) (pv 0) (pv 2) (fun _ _ => rfl)) (pv 2) (by first | exact ⟨rfl⟩ | exact ⟨rfl, rfl⟩ | constructor <;> rfl)))))
      (pss_one (ps_ret (pe_dc (own := [("content", 3)]) (g := gName 3) rfl sc_kept.nd (pi_list (pe_callB (call_sortedD rfl) (by rfl) ms (by decide +kernel) (pa_cons (pv 1) pa_nil)))
        (blkOk_by (own := [("content", 3)]) (N := ["files", "found", "path", "content"]) (sc := defScope s_kept) (by decide +kernel)) (fun _ _ _ _ _ => pg_name (i := 3) sc_kept.nd rfl (Or.inl rfl)) (fun _ _ _ _ _ => pts_nil)
        (fun _ _ _ _ _ => pv 3) (fun _ _ _ _ _ => pe_dget (hu_of hr) (pv 1) (pv 3) (fun _ _ => rfl)))))), ?_⟩
    refine fun d hd => ?_
    have m0 : Mod T [] H (upd H d (.dK [])) := Mod.new hd
    have d0 : (upd H d (.dK [])) d = some (.dK []) := upd_same
    generalize upd H d (.dK []) = H0 at m0 d0
    -- for path in shelves(files)
    refine ⟨_, rfl, a, fs, rfl, m0.dK hA, hok.mono (by decide), m0.tabs hT, fun H1 p m1 np e1 => ?_⟩
    refine ⟨p, rfl, ⟨_, SqL.of e1⟩, ?_⟩
    have d1 := m1.dK d0
    refine for_list (xs := (shelvesOf fs).map V.str) (fun i σ' H' => ∃ y, σ' = [some (.ref a), some (.ref d), y, none] ∧ Mod T [] H H' ∧ H' d = some (.dK (dS (foundN fs ((nums fs).take i)))) ∧ H' p = some (.lst ((shelvesOf fs).map V.str)))
      ⟨none, rfl, m0.trans m1, d1, e1⟩ (fun i σ' H' _ ⟨y, _, _, _, e⟩ => SqL.of e) (fun i x σ' H' hx ⟨y, es, m, ed, ep⟩ => ?_) (fun σ' H' ⟨y, es, m, ed, ep⟩ => ?_)
    · subst es
      obtain ⟨pp, hpp, rfl⟩ := Option.map_eq_some_iff.mp ((List.getElem?_map (f := V.str) ▸ hx : _))
      obtain ⟨n, hn, rfl⟩ := Option.map_eq_some_iff.mp ((List.getElem?_map (f := shPath) ▸ hpp : _))
      have hmem : n ∈ nums fs := List.mem_of_getElem? hn
      obtain ⟨h19, hs⟩ := mem_nums.mp hmem
      obtain ⟨cc, hcc⟩ : ∃ cc, look fs (shPath n) = some cc := Option.isSome_iff_exists.mp hs
      have hcA : cAt fs (shPath n) = cc := by unfold cAt; rw [hcc]; rfl
      have g := dget_of (m.dK hA) (shPath n)
      rw [hcc] at g
      have hlen : (dS (foundN fs ((nums fs).take i))).length < sizeLine := by
        rw [dS_len]
        have h1 := foundN_len fs ((nums fs).take i)
        have h2 := nums_len fs
        have h3 := hok.len
        rw [List.length_take] at h1
        exact small_lt (by omega)
      have nxt : foundN fs ((nums fs).take (i + 1)) = setdef (foundN fs ((nums fs).take i)) cc (shPath n) := by rw [take_snoc hn, foundN_snoc, hcA]
      have ndp : p ≠ d := fun z => by
        rw [z, ed] at ep
        cases ep
      refine ⟨_, rfl, d, rfl, .inl ⟨_, .inl ed⟩, ?_⟩
      refine ⟨_, rfl, _, rfl, a, .str cc, rfl, g, ?_⟩
      refine ⟨_, rfl, _, Sum.inr cc, ed, rfl, hlen, fun v hv => ?_, fun hv => ?_⟩
      · refine ⟨some (.str (shPath n)), rfl, m, ?_, ep⟩
        rw [val_dk] at hv
        rw [nxt]
        unfold setdef
        rw [if_pos]
        · exact ed
        · obtain ⟨z, hz, _⟩ := Option.map_eq_some_iff.mp hv
          rw [hz]
          rfl
      · refine ⟨some (.str (shPath n)), rfl, m.own hd ed pl_dK, ?_, ?_⟩
        · rw [val_dk] at hv
          rw [upd_same, nxt]
          unfold setdef
          rw [if_neg]
          · exact congrArg (fun z => some (HO.dK z)) (put_dk (f := V.str) _ _ _)
          · rw [Option.map_eq_none_iff.mp hv]
            exact Bool.false_ne_true
        · rw [upd_ne ndp]
          exact ep
    · subst es
      have ed : H' d = some (.dK (dS (found fs))) := by
        rw [ed, List.take_of_length_le (by rw [List.length_map]; unfold shelvesOf; rw [List.length_map]; exact Nat.le_refl _)]
        rfl
      have h63 : ((found fs).map (·.1)).length < 64 := by
        rw [List.length_map]
        have := found_len fs
        have := hok.len
        omega
      -- {content: found[content] for content in sorted(found)}
      refine ⟨_, rfl, d, dS (found fs), (found fs).map (·.1), rfl, .inl ed, keys_dk _, h63, fun ys l hys1 hys2 hl => ?_⟩
      have eys := sortS_eq hys1 hys2
      subst eys
      have m2 : Mod T [] H (upd H' l (.lst ((sortS ((found fs).map (·.1))).map V.str))) := m.new' hl
      have el : (upd H' l (.lst ((sortS ((found fs).map (·.1))).map V.str))) l = some (.lst ((sortS ((found fs).map (·.1))).map V.str)) := upd_same
      have ed2 : (upd H' l (.lst ((sortS ((found fs).map (·.1))).map V.str))) d = some (.dK (dS (found fs))) := (Mod.new (T := T) (S := []) hl).dK ed
      generalize upd H' l (.lst ((sortS ((found fs).map (·.1))).map V.str)) = H2 at m2 el ed2
      refine ⟨l, rfl, ⟨_, SqL.of el⟩, fun B hB => ?_⟩
      have ndS := sortS_nodup (found_nd fs)
      have lenS : (sortS ((found fs).map (·.1))).length < 64 := by
        rw [sortS_len]
        exact h63
      refine dc_it (walk_list (xs := (sortS ((found fs).map (·.1))).map V.str)) (fun i H' => Mod T [] H2 H' ∧ H' B = some (.dK (dS (((sortS ((found fs).map (·.1))).take i).map fun c => (c, cAt (found fs) c))))) ⟨Mod.new hB, upd_same⟩ (fun i H' _ hp => hp.1.sql (SqL.of el)) (fun i x H3 H4 hi hp hy => ?_) (fun H3 hp => ?_)
      · obtain ⟨m3, e3⟩ := hp
        obtain ⟨rfl, hx⟩ := hy
        obtain ⟨cc, hcc, rfl⟩ := Option.map_eq_some_iff.mp ((List.getElem?_map (f := V.str) ▸ hx : _))
        have hin : (look (found fs) cc).isSome = true := look_some_iff.mpr (sortS_mem.mp (List.mem_of_getElem? hcc))
        obtain ⟨pp, hpp⟩ := Option.isSome_iff_exists.mp hin
        have g := dget_of (m3.dK ed2) cc
        rw [hpp] at g
        have hcA : cAt (found fs) cc = pp := by unfold cAt; rw [hpp]; rfl
        refine ⟨rfl, yes_ (iteT ?_)⟩
        refine ⟨_, rfl, _, rfl, _, rfl, d, .str pp, rfl, g, _, Sum.inr cc, rfl, e3, ?_, m3.own hB e3 pl_dK, ?_⟩
        · rw [dS_len, List.length_map, List.length_take]
          exact small_lt (by omega)
        · rw [upd_same]
          have z := put_dk (f := V.str) (((sortS ((found fs).map (·.1))).take i).map fun c => (c, cAt (found fs) c)) cc pp
          rw [← hcA, put_tab (f := cAt (found fs)) (nd_take ndS hcc), ← take_snoc hcc, hcA] at z
          exact congrArg (fun z => some (HO.dK z)) z
      · obtain ⟨m3, e3⟩ := hp
        rw [List.length_map, List.take_of_length_le (Nat.le_refl _)] at e3
        have mF := m2.trans m3
        exact q H3 B mF (m2.old B hB) e3
end Pw

set_option maxHeartbeats 4000000
namespace Pw
open PySem PySem.Spec PyProof.Rows L2 LamX
variable {P : Program} {w : World} {K : PySem.W.Frag} {mg : Str → Option Value} {base : Heap} {T : List (Addr × Str)}
theorem log2_small {n : Nat} (h : n < 2 ^ 64) : ((n : Nat) : Int).natAbs.log2 < 1920 := by
  show n.log2 < 1920
  by_cases z : n = 0
  · rw [z]
    decide
  · rw [Nat.log2_lt z]
    exact Nat.lt_of_lt_of_le h (Nat.pow_le_pow_right (by decide) (by decide))
theorem upd_tup {H : Hp} {p q : Addr} {o u : HO} {xs : List V} (h : H q = some u) (n : ∀ xs, u ≠ .tup xs) (e : H p = some (.tup xs)) : upd H q o p = some (.tup xs) := by
  rw [upd_ne]
  · exact e
  · intro z
    rw [z, h] at e
    exact n xs (Option.some.inj e)
abbrev TupsAt (H : Hp) (as : List Addr) (rows : List (List Str)) : Prop := Paired (fun p (d : List Str) => H p = some (.tup (d.map V.str))) as rows
theorem tups_upd {H : Hp} {q : Addr} {o u : HO} {as : List Addr} {rows : List (List Str)} (h : H q = some u) (n : ∀ xs, u ≠ .tup xs) (t : TupsAt H as rows) : TupsAt (upd H q o) as rows := Paired.mapP t fun _ _ e => upd_tup h n e
theorem tups_mod {H H1 : Hp} {as : List Addr} {rows : List (List Str)} (m : Mod T [] H H1) (t : TupsAt H as rows) : TupsAt H1 as rows := Paired.mapP t fun _ _ e => m.tup e
theorem upd_lst {H : Hp} {p q : Addr} {o u : HO} {xs : List V} (h : H q = some u) (n : ∀ xs, u ≠ .lst xs) (e : H p = some (.lst xs)) : upd H q o p = some (.lst xs) := by
  rw [upd_ne]
  · exact e
  · intro z
    rw [z, h] at e
    exact n xs (Option.some.inj e)
theorem upd_dK {H : Hp} {p q : Addr} {o u : HO} {xs : List (Key × V)} (h : H q = some u) (n : ∀ xs, u ≠ .dK xs) (e : H p = some (.dK xs)) : upd H q o p = some (.dK xs) := by
  rw [upd_ne]
  · exact e
  · intro z
    rw [z, h] at e
    exact n xs (Option.some.inj e)
theorem path_txt (j : Nat) : SH ++ Str.ofString (toString ((j : Nat) : Int)) = shPath j := rfl
theorem plan_one {fs : Fs} {c : Str} (h : look (keptOf fs) c = none) : plan fs [c] = [(mexN (nums fs), c)] := by
  rw [plan_out h]
  unfold plan
  rfl
theorem plan_zero {fs : Fs} {c : Str} (h : (look (keptOf fs) c).isSome = true) : plan fs [c] = [] := by
  rw [plan_in h]
  unfold plan
  try rfl
theorem doAll_deeds_app (fs : Fs) (a b : List (Nat × Str)) : doAll fs (deedsOf (a ++ b)) = doAll (doAll fs (deedsOf a)) (deedsOf b) := by rw [deedsOf_app, doAll_app]
def encs (ds : List Deed) : List (List Str) := ds.map Deed.enc
/-- what the loop of keeping holds -/
structure KSt (T : List (Addr × Str)) (H0 H : Hp) (th tk dd : Addr) (fs : Fs) (pre : List Str) (nb : Nat) : Prop where
  mod : Mod T [] H0 H
  kept : ∃ TH : Fs, H th = some (.dK (dS TH)) ∧ TH.length ≤ 63 + pre.length ∧ ∀ c, (look TH c).isSome = true ↔ Has (doAll fs (deedsOf (plan fs pre))) c
  took : ∃ TK : List (Str × Bool), H tk = some (.dK (dk V.bl TK)) ∧ TK.length ≤ 63 + pre.length ∧ ∀ n, n < 10 ^ 19 → ((look TK (shPath n)).isSome = true ↔ n ∈ nums (doAll fs (deedsOf (plan fs pre))))
  num : ∀ k, k < nb → k ∈ nums (doAll fs (deedsOf (plan fs pre)))
  deeds : ∃ as, H dd = some (.lst (as.map V.ref)) ∧ TupsAt H as (encs (deedsOf (plan fs pre)))
def spKeep (T : List (Addr × Str)) : Sp := fun vs H Q _ => ∃ (a c : Addr) (fs : Fs) (cs : List Str), vs = [.ref a, .ref c] ∧ FsAt H a fs ∧ FOk 63 fs ∧ Tabs T H ∧ H c = some (.lst (cs.map V.str)) ∧ (∀ c ∈ cs, Gd 1000 c) ∧ cs.length ≤ 10 ∧
  ∀ H' p, Mod T [] H H' → H p = none → Rows H' p (encs (deedsOf (plan fs cs))) → Q (.ref p) H'
theorem sc_keep : FnScope ["files", "contents", "there", "taken", "deeds", "number", "content", "path"] ["files", "contents"] (defScope s_keeping) := ⟨rfl, rfl, rfl, by decide +kernel, rfl, by decide +kernel, by decide +kernel⟩
theorem ok_keep (D : PwDef K mg "keeping" s_keeping) (cK : Cal P w K mg base 6 "kept" (spKept T) []) (cS : Cal P w K mg base 5 "shelves" (spSh T) []) (mS : ∃ t, mg "SHELF" = some (.str SH t)) (mN : ∃ t, mg "NEW" = some (.str NEW t)) (mstr : mg "str" = none) : Cal P w K mg base 7 "keeping" (spKeep T) [] := by
  obtain ⟨tS, mS⟩ := mS
  obtain ⟨tN, mN⟩ := mN
  refine cal_of D sc_keep (fun _ _ _ _ _ _ us hl => match us, hl with | [_, _], _ => rfl) (fun vs H Q E h => ?_) (fun f cdv A outer s H vs Q E hr h => ?_)
  · obtain ⟨a, c, fs, cs, rfl, _⟩ := h
    rfl
  · obtain ⟨a, c, fs, cs, rfl, hA, hok, hT, hC, hg, hlc, q⟩ := h
    have hA : H a = some (.dK (dS fs)) := hA
    refine ⟨_, pss_cons (ps_asg (pe_tup (pa_cons (C8.pe_c cK hr (by decide) rfl (pa_cons (pv 0) pa_nil))
          (pa_cons (pe_dc (own := [("path", 7)]) (g := gName 7) rfl sc_keep.nd (pi_list (C8.pe_c cS hr (by decide) rfl (pa_cons (pv 0) pa_nil)))
            (blkOk_by (own := [("path", 7)]) (N := ["files", "contents", "there", "taken", "deeds", "number", "content", "path"]) (sc := defScope s_keeping) (by decide +kernel)) (fun _ _ _ _ _ => pg_name (i := 7) sc_keep.nd rfl (Or.inl rfl)) (fun _ _ _ _ _ => pts_nil)
            (fun _ _ _ _ _ => pv 7) (fun _ _ _ _ _ => pe_bl)) (pa_cons (pe_lst pa_nil) (pa_cons pe_int pa_nil)))))
          (pg_tup rfl (pgs_cons (pg_name (i := 2) sc_keep.nd rfl (.inl rfl)) (pgs_cons (pg_name (i := 3) sc_keep.nd rfl (.inl rfl)) (pgs_cons (pg_name (i := 4) sc_keep.nd rfl (.inl rfl)) (pgs_cons (pg_name (i := 5) sc_keep.nd rfl (.inl rfl)) pgs_nil))))))
      (pss_cons (ps_for PassesOwn.never rfl (pi_list (pv 1)) (pg_name (i := 6) sc_keep.nd rfl (.inl rfl))
        (pss_one (ps_if (pt_cmp (pc_dnotin (hu_of hr) (pv 6) (pv 2)) (by rfl))
          (pss_cons (ps_while PassesOwn.never (pt_cmp (pc_din (hu_of hr) (pe_op op_add_str (pe_glob (v := .str SH) rfl mS ⟨_, rfl⟩) (pe_callTy call_str_int (by rfl) mstr (by decide +kernel) (pa_cons (pv 5) pa_nil))) (pv 3)) (by rfl))
            (pss_one (ps_aug (i := 5) sc_keep.nd rfl (.inl rfl) pe_int ip_add)))
          (pss_cons (ps_dput (hu_of hr) (pv 2) (pv 6) (pe_op op_add_str (pe_glob (v := .str SH) rfl mS ⟨_, rfl⟩) (pe_callTy call_str_int (by rfl) mstr (by decide +kernel) (pa_cons (pv 5) pa_nil))) rfl)
          (pss_cons (ps_dput (hu_of hr) (pv 3) (pe_dget (hu_of hr) (pv 2) (pv 6) (fun _ _ => rfl)) pe_bl rfl)
          (pss_one (ps_expr (pe_bm PySem.F.plainAttrs_list PySem.F.slot_list_extend PySem.F.type_list_extend mt_extend (pv 4) (pa_cons
            (pe_lst (pa_cons (pe_tup (pa_cons pe_str (pa_cons (pe_glob (v := .str NEW) rfl mN ⟨_, rfl⟩) (pa_cons (pv 6) pa_nil))))
              (pa_cons (pe_tup (pa_cons pe_str (pa_cons (pe_glob (v := .str NEW) rfl mN ⟨_, rfl⟩) (pa_cons (pe_dget (hu_of hr) (pv 2) (pv 6) (fun _ _ => rfl)) pa_nil)))) pa_nil))) pa_nil)))))))
          pss_nil)))
      (pss_one (ps_ret (pv 4)))), ?_⟩
    -- kept(files)
    refine ⟨_, rfl, a, fs, rfl, hA, hok, hT, fun H1 th m1 nth eth => ?_⟩
    have eth : H1 th = some (.dK (dS (keptOf fs))) := eth
    -- shelves(files)
    refine ⟨_, rfl, a, fs, rfl, m1.dK hA, hok.mono (by decide), m1.tabs hT, fun H2 l m2 nl el => ?_⟩
    refine ⟨l, rfl, ⟨_, SqL.of el⟩, fun tk htk => ?_⟩
    have eth2 := m2.dK eth
    have m12 := m1.trans m2
    have ndN := nums_nd hok.nd
    refine dc_it (walk_list (xs := (shelvesOf fs).map V.str)) (fun i H' => Mod T [] H2 H' ∧ ∃ TK : List (Str × Bool), H' tk = some (.dK (dk V.bl TK)) ∧ TK.length ≤ i ∧ ∀ s, (look TK s).isSome = true ↔ s ∈ (shelvesOf fs).take i)
      ⟨Mod.new htk, [], upd_same, Nat.le_refl _, fun s => by simp [look_nil]⟩ (fun i H' _ hp => hp.1.sql (SqL.of el)) (fun i x H3 H4 hi hp hy => ?_) (fun H3 hp => ?_)
    · obtain ⟨m3, TK, e3, l3, k3⟩ := hp
      obtain ⟨rfl, hx⟩ := hy
      obtain ⟨pp, hpp, rfl⟩ := Option.map_eq_some_iff.mp ((List.getElem?_map (f := V.str) ▸ hx : _))
      have hlen : (shelvesOf fs).length ≤ 63 := by
        unfold shelvesOf
        rw [List.length_map]
        exact Nat.le_trans (nums_len fs) hok.len
      have hi2 : i < (shelvesOf fs).length := by
        rw [List.length_map] at hi
        exact hi
      refine ⟨rfl, yes_ (iteT ?_)⟩
      refine ⟨_, rfl, _, Sum.inr pp, rfl, e3, ?_, m3.own htk e3 pl_dK, put TK pp true, ?_, ?_, fun s => ?_⟩
      · rw [len_dk]
        exact small_lt (by omega)
      · rw [upd_same]
        exact congrArg (fun z => some (HO.dK z)) (put_dk (f := V.bl) TK pp true)
      · have := len_put_le TK pp true
        omega
      · rw [look_put, take_snoc hpp, List.mem_append, List.mem_singleton]
        by_cases z : s = pp
        · simp [z]
        · simp [z, k3 s]
    · obtain ⟨m3, TK, e3, l3, k3⟩ := hp
      rw [List.length_map] at l3 k3
      rw [List.take_of_length_le (Nat.le_refl _)] at k3
      have hlen : (shelvesOf fs).length ≤ 63 := by
        unfold shelvesOf
        rw [List.length_map]
        exact Nat.le_trans (nums_len fs) hok.len
      -- []
      refine ⟨Nat.zero_le _, fun dd hdd => ?_⟩
      have m4 : Mod T [] H3 (upd H3 dd (.lst [])) := Mod.new hdd
      have edd : (upd H3 dd (.lst [])) dd = some (.lst []) := upd_same
      have eth4 := m4.dK (m3.dK eth2)
      have etk4 := m4.dK e3
      have mA4 := (m12.trans m3).trans m4
      have ntk : H tk = none := m12.old tk htk
      have ndd : H dd = none := (m12.trans m3).old dd hdd
      have nThTk : th ≠ tk := fun z => by
        rw [← z] at htk
        rw [htk] at eth2
        cases eth2
      generalize upd H3 dd (.lst []) = H4 at m4 edd eth4 etk4 mA4
      refine ⟨(by show 4 ≤ sizeLine; decide), fun tp htp => ?_⟩
      have m5 : Mod T [] H4 (upd H4 tp (.tup [.ref th, .ref tk, .ref dd, .int 0])) := Mod.new htp
      have etp : (upd H4 tp (.tup [.ref th, .ref tk, .ref dd, .int 0])) tp = some (.tup [.ref th, .ref tk, .ref dd, .int 0]) := upd_same
      generalize upd H4 tp (.tup [.ref th, .ref tk, .ref dd, .int 0]) = H5 at m5 etp
      refine ⟨tp, _, rfl, SqT.of etp, rfl, _, _, rfl, _, _, rfl, _, _, rfl, _, _, rfl, rfl, ?_⟩
      have mA5 := mA4.trans m5
      -- for content in contents
      refine ⟨_, rfl, c, rfl, ⟨_, SqL.of (mA5.lst hC)⟩, ?_⟩
      have p0 : plan fs (cs.take 0) = [] := by
        rw [List.take_zero]
        unfold plan
        rfl
      refine for_list (xs := cs.map V.str) (fun i σ' H' => ∃ (nb : Nat) (y : Option V), σ' = [some (.ref a), some (.ref c), some (.ref th), some (.ref tk), some (.ref dd), some (.int ((nb : Nat) : Int)), y, none] ∧ KSt T H H' th tk dd fs (cs.take i) nb)
        ⟨0, none, rfl, mA5, ?_, ?_, ?_, ?_⟩ (fun i σ' H' _ ⟨_, _, _, k⟩ => SqL.of (k.mod.lst hC)) (fun i x σ' H' hx ⟨nb, y, es, k⟩ => ?_) (fun σ' H' ⟨nb, y, es, k⟩ => ?_)
      · rw [p0]
        refine ⟨_, m5.dK eth4, ?_, fun z => kept_has⟩
        unfold keptOf
        rw [inOrd_len]
        have := found_len fs
        have := hok.len
        omega
      · rw [p0]
        refine ⟨TK, m5.dK etk4, by omega, fun n hn => ?_⟩
        rw [k3]
        unfold shelvesOf
        rw [List.mem_map]
        constructor
        · rintro ⟨j, hj, e⟩
          rw [← shPath_inj e]
          exact hj
        · intro hj
          exact ⟨n, hj, rfl⟩
      · intro k hk
        exact absurd hk (Nat.not_lt_zero _)
      · rw [p0]
        exact ⟨[], m5.lst edd, .nil⟩
      · subst es
        obtain ⟨cc, hcc, rfl⟩ := Option.map_eq_some_iff.mp ((List.getElem?_map (f := V.str) ▸ hx : _))
        obtain ⟨mK, ⟨TH, eTH, lTH, kTH⟩, ⟨TK2, eTK, lTK, kTK⟩, hnum, ⟨as, eDD, tDD⟩⟩ := k
        have hpl : (cs.take i).length ≤ 10 := by
          rw [List.length_take]
          omega
        have hgp : ∀ c ∈ cs.take i, Gd 1000 c := fun c hc => hg c (List.mem_of_mem_take hc)
        obtain ⟨Pp, fok, _, _⟩ := plan_is (cs.take i) hok hgp (by omega)
        have lpl := plan_len (cs.take i) fs
        have epl : plan fs (cs.take (i + 1)) = plan fs (cs.take i) ++ plan (doAll fs (deedsOf (plan fs (cs.take i)))) [cc] := by rw [take_snoc hcc, plan_app]
        generalize hgs : doAll fs (deedsOf (plan fs (cs.take i))) = gs at *
        have len1 : (cs.take (i + 1)).length = (cs.take i).length + 1 := by rw [take_snoc hcc, List.length_append] <;> rfl
        -- if content not in there
        refine ⟨_, rfl, _, rfl, th, _, rfl, dget_of eTH cc, _, rfl, ?_⟩
        refine ite2 (fun hn => ?_) (fun hn => ?_)
        · have hnone : look (keptOf gs) cc = none := by
            rw [kept_not, ← kTH]
            intro z
            rw [Option.isSome_map, z] at hn
            cases hn
          have hlt : mexN (nums gs) < 10 ^ 19 := mex_lt fok (by omega)
          have hfree := mex_free fok.nd hlt
          have hsm : mexN (nums gs) ≤ 73 := by
            have h1 := mex_le (nums gs)
            have h2 := nums_len gs
            have h3 := fok.len
            omega
          have nbm : nb ≤ mexN (nums gs) := by
            rcases Nat.lt_or_ge (mexN (nums gs)) nb with z | z
            · exact absurd (hnum _ z) (mex_not (nums_lt fok.nd))
            · exact z
          rw [plan_one hnone] at epl
          have edo : doAll fs (deedsOf (plan fs (cs.take (i + 1)))) = laid gs (mexN (nums gs), cc) := by
            rw [epl, doAll_deeds_app, hgs]
            exact doAll_new gs _
          generalize hM : mexN (nums gs) = M at *
          have txt : ∀ j : Nat, j ≤ M → (((j : Nat) : Int).natAbs.log2 < 1920) ∧ SH.length + (Str.ofString (toString ((j : Nat) : Int))).length ≤ sizeLine := fun j hj => by
            refine ⟨log2_small (by omega), ?_⟩
            have h1 := (gd_path (n := j) (by omega)).1
            have h2 : (shPath j).length = SH.length + (Str.ofString (toString ((j : Nat) : Int))).length := by
              show (SH.cps ++ _).size = _
              rw [Array.size_append]
              rfl
            exact small_sz (by omega)
          -- while SHELF + str(number) in taken
          refine ⟨fun m σ2 H2' => ∃ j : Nat, m = M - j ∧ j ≤ M ∧ σ2 = [some (.ref a), some (.ref c), some (.ref th), some (.ref tk), some (.ref dd), some (.int ((j : Nat) : Int)), some (.str cc), none] ∧ H2' = H', ⟨M - nb, nb, rfl, nbm, rfl, rfl⟩, ?_⟩
          rintro m σ2 H2' ⟨j, rfl, hj, rfl, rfl⟩
          obtain ⟨t1, t2⟩ := txt j hj
          have g := DGet.k (k := Sum.inr (shPath j)) eTK
          rw [val_dk] at g
          refine ⟨_, rfl, _, rfl, t1, SH, _, rfl, rfl, t2, _, rfl, tk, _, rfl, g, _, rfl, ?_⟩
          refine ite2 (fun ht => ?_) (fun ht => ?_)
          · rw [Option.isSome_map, kTK j (by omega)] at ht
            have hjM : j ≠ M := fun z => by
              rw [z, ← hM] at ht
              exact mex_not (nums_lt fok.nd) ht
            refine ⟨fun σ3 H3' => σ3 = [some (.ref a), some (.ref c), some (.ref th), some (.ref tk), some (.ref dd), some (.int (((j + 1 : Nat) : Nat) : Int)), some (.str cc), none] ∧ H3' = H2', fun σ3 H3' ⟨e1, e2⟩ => ⟨M - (j + 1), by omega, j + 1, rfl, by omega, e1, e2⟩, ?_⟩
            exact ⟨_, rfl, _, _, rfl, rfl, rfl, rfl⟩
          · rw [Option.isSome_map, kTK j (by omega)] at ht
            have hjM : j = M := by
              rcases Nat.lt_or_ge j M with z | z
              · rw [← hM] at z
                exact absurd (mex_below (nums_lt fok.nd) z) ht
              · omega
            subst hjM
            -- there[content] = SHELF + str(number)
            have hTHn : look TH cc = none := by
              cases z : look TH cc with
              | none => rfl
              | some _ =>
                rw [z] at hn
                cases hn
            have dp1 := dput_of eTH cc (shPath j) (small_lt (by omega))
            refine ⟨_, rfl, _, rfl, t1, SH, _, rfl, rfl, t2, ?_⟩
            refine ⟨_, rfl, _, rfl, th, _, rfl, dp1, ?_⟩
            have eth6 : (upd H2' th (.dK (dS (put TH cc (shPath j))))) th = some (.dK (dS (put TH cc (shPath j)))) := upd_same
            have etk6 : (upd H2' th (.dK (dS (put TH cc (shPath j))))) tk = some (.dK (dk V.bl TK2)) := by
              rw [upd_ne (Ne.symm nThTk)]
              exact eTK
            have edd6 := upd_lst (o := .dK (dS (put TH cc (shPath j)))) eTH (fun _ z => by cases z) eDD
            have tdd6 := tups_upd (o := .dK (dS (put TH cc (shPath j)))) eTH (fun _ z => by cases z) tDD
            have m6 := mK.own (o := .dK (dS (put TH cc (shPath j)))) nth eTH pl_dK
            generalize upd H2' th (.dK (dS (put TH cc (shPath j)))) = H6 at eth6 etk6 edd6 tdd6 m6
            -- taken[there[content]] = True
            have gth := dget_of eth6 cc
            rw [look_put, if_pos rfl] at gth
            have dp2 := DPut.k (k := Sum.inr (shPath j)) (v := V.bl true) etk6 (by rw [len_dk]; exact small_lt (by omega))
            rw [put_dk] at dp2
            refine ⟨_, rfl, _, rfl, _, rfl, th, .str (shPath j), rfl, gth, tk, _, rfl, dp2, ?_⟩
            have etk7 : (upd H6 tk (.dK (dk V.bl (put TK2 (shPath j) true)))) tk = some (.dK (dk V.bl (put TK2 (shPath j) true))) := upd_same
            have eth7 : (upd H6 tk (.dK (dk V.bl (put TK2 (shPath j) true)))) th = some (.dK (dS (put TH cc (shPath j)))) := by
              rw [upd_ne nThTk]
              exact eth6
            have edd7 := upd_lst (o := .dK (dk V.bl (put TK2 (shPath j) true))) etk6 (fun _ z => by cases z) edd6
            have tdd7 := tups_upd (o := .dK (dk V.bl (put TK2 (shPath j) true))) etk6 (fun _ z => by cases z) tdd6
            have m7 := m6.own (o := .dK (dk V.bl (put TK2 (shPath j) true))) ntk etk6 pl_dK
            generalize upd H6 tk (.dK (dk V.bl (put TK2 (shPath j) true))) = H7 at eth7 etk7 edd7 tdd7 m7
            -- deeds.extend(..)
            refine ⟨.ref dd, rfl, .inl ⟨rfl, _, SqL.of edd7⟩, ?_⟩
            refine ⟨_, rfl, (by show 3 ≤ sizeLine; decide), fun u1 hu1 => ?_⟩
            have n1 : Mod T [] H7 (upd H7 u1 (.tup [.str (Str.ofString "put"), .str NEW, .str cc])) := Mod.new hu1
            have eu1 : (upd H7 u1 (.tup [.str (Str.ofString "put"), .str NEW, .str cc])) u1 = some (.tup [.str (Str.ofString "put"), .str NEW, .str cc]) := upd_same
            generalize upd H7 u1 (.tup [.str (Str.ofString "put"), .str NEW, .str cc]) = H8 at n1 eu1
            have gth8 := dget_of (n1.dK eth7) cc
            rw [look_put, if_pos rfl] at gth8
            refine ⟨_, rfl, _, rfl, th, .str (shPath j), rfl, gth8, (by show 3 ≤ sizeLine; decide), fun u2 hu2 => ?_⟩
            have n2 : Mod T [] H8 (upd H8 u2 (.tup [.str (Str.ofString "move"), .str NEW, .str (shPath j)])) := Mod.new hu2
            have eu2 : (upd H8 u2 (.tup [.str (Str.ofString "move"), .str NEW, .str (shPath j)])) u2 = some (.tup [.str (Str.ofString "move"), .str NEW, .str (shPath j)]) := upd_same
            generalize upd H8 u2 (.tup [.str (Str.ofString "move"), .str NEW, .str (shPath j)]) = H9 at n2 eu2
            refine ⟨(by show 2 ≤ sizeLine; decide), fun u3 hu3 => ?_⟩
            have n3 : Mod T [] H9 (upd H9 u3 (.lst [.ref u1, .ref u2])) := Mod.new hu3
            have eu3 : (upd H9 u3 (.lst [.ref u1, .ref u2])) u3 = some (.lst [.ref u1, .ref u2]) := upd_same
            generalize upd H9 u3 (.lst [.ref u1, .ref u2]) = H10 at n3 eu3
            have nn := (n1.trans n2).trans n3
            have edd10 := nn.lst edd7
            refine ⟨dd, u3, _, _, rfl, rfl, edd10, eu3, ?_, ?_⟩
            · rw [List.length_map, paired_len tdd7]
              unfold encs
              rw [List.length_map, deedsOf_len]
              show 2 * _ + 2 ≤ _
              exact small_sz (by omega)
            · have nd3 : u3 ≠ dd := fun z => by
                rw [z] at hu3
                rw [(n1.trans n2).lst edd7] at hu3
                cases hu3
              refine ⟨j, some (.str cc), rfl, (m7.trans nn).own ndd edd10 pl_lst, ?_, ?_, ?_, ?_⟩
              · refine ⟨_, upd_dK edd10 (fun _ z => by cases z) (nn.dK eth7), ?_, fun z => ?_⟩
                · have := len_put_le TH cc (shPath j)
                  omega
                · rw [edo, has_laid (x := (j, cc)) hlt hfree, look_put, ← kTH]
                  by_cases e : z = cc
                  · simp [e]
                  · simp [e]
              · refine ⟨_, upd_dK edd10 (fun _ z => by cases z) (nn.dK etk7), ?_, fun n h19 => ?_⟩
                · have := len_put_le TK2 (shPath j) true
                  omega
                · rw [edo, mem_nums, look_put, look_laid]
                  by_cases e : shPath n = shPath j
                  · simp [e, h19]
                  · rw [if_neg e, if_neg e, if_neg (fun z => NEW_ne _ z.symm), kTK n h19, mem_nums]
              · intro k hk
                rw [edo, mem_nums]
                rw [← hM] at hk
                obtain ⟨h1, h2⟩ := mem_nums.mp (mex_below (nums_lt fok.nd) hk)
                refine ⟨h1, ?_⟩
                rw [look_laid]
                split
                · rfl
                · rw [if_neg (fun z => NEW_ne _ z.symm)]
                  exact h2
              · refine ⟨as ++ [u1, u2], ?_, ?_⟩
                · rw [upd_same, List.map_append]
                  rfl
                · rw [epl]
                  have e : encs (deedsOf (plan fs (cs.take i) ++ [(j, cc)])) = encs (deedsOf (plan fs (cs.take i))) ++ [[sPut, NEW, cc], [sMove, NEW, shPath j]] := by
                    unfold encs
                    rw [deedsOf_app, List.map_append]
                    rfl
                  rw [e]
                  refine paired_app (tups_upd edd10 (fun _ z => by cases z) (tups_mod nn tdd7)) (.cons ?_ (.cons ?_ .nil))
                  · exact upd_tup edd10 (fun _ z => by cases z) ((n2.trans n3).tup eu1)
                  · exact upd_tup edd10 (fun _ z => by cases z) (n3.tup eu2)
        · have hyes : (look (keptOf gs) cc).isSome = true := by
            rw [kept_has, ← kTH]
            cases z : look TH cc with
            | none =>
              rw [z] at hn
              exact absurd rfl hn
            | some _ => rfl
          rw [plan_zero hyes, List.append_nil] at epl
          refine ⟨nb, some (.str cc), rfl, mK, ?_, ?_, ?_, ?_⟩
          · rw [epl, hgs]
            exact ⟨TH, eTH, by omega, kTH⟩
          · rw [epl, hgs]
            exact ⟨TK2, eTK, by omega, kTK⟩
          · rw [epl, hgs]
            exact hnum
          · rw [epl]
            exact ⟨as, eDD, tDD⟩
      · subst es
        obtain ⟨mK, _, _, _, ⟨as, eDD, tDD⟩⟩ := k
        rw [List.length_map, List.take_of_length_le (Nat.le_refl _)] at tDD
        exact ⟨_, rfl, q H' dd mK ndd ⟨as, eDD, tDD⟩⟩
end Pw

set_option maxHeartbeats 4000000
namespace Pw
open PySem PySem.Spec PyProof.Rows L2 LamX
variable {P : Program} {w : World} {K : PySem.W.Frag} {mg : Str → Option Value} {base : Heap} {T : List (Addr × Str)}
theorem notIn_k {X : Cx} {K : PySem.W.Frag} (h : X.K = K := by rfl) : OpR X (compareOp .NotIn) (rIn K true) := h ▸ op_notIn_seq
theorem inV_strs (c : Str) (cs : List Str) : inV (.str c) (cs.map V.str) = decide (c ∈ cs) := by
  unfold inV
  rw [List.any_map]
  induction cs with
  | nil => simp
  | cons a r ih =>
    rw [List.any_cons, ih]
    have e : ((fun y => eqV y (V.str c)) ∘ V.str) a = decide (a = c) := by
      first
        | rfl
        | (show eqV (.str a) (.str c) = _; simp [eqV])
    rw [e]
    by_cases z : a = c
    · simp [z]
    · have : ¬ c = a := fun q => z q.symm
      simp [z, this]
theorem flat_strs (cs : List Str) : (cs.map V.str).all flatV = true := by
  rw [List.all_map, List.all_eq_true]
  intro x _
  rfl
theorem shelf_len {N : Nat} {fs : Fs} (h : FOk N fs) : (shelvesOf fs).length ≤ N := by
  unfold shelvesOf
  rw [List.length_map]
  exact Nat.le_trans (nums_len fs) h.len
theorem shelf_at {fs : Fs} {p : Str} (h : p ∈ shelvesOf fs) : (look fs p).isSome = true ∧ ∃ n, p = shPath n ∧ n < 10 ^ 19 := by
  obtain ⟨n, hn, rfl⟩ := List.mem_map.mp h
  obtain ⟨h1, h2⟩ := mem_nums.mp hn
  exact ⟨h2, n, rfl, h1⟩
def dropRows (l : List Str) : List (List Str) := l.map fun p => [sDrop, p]
def spUnsh (T : List (Addr × Str)) : Sp := fun vs H Q _ => ∃ (a c : Addr) (fs : Fs) (cs : List Str), vs = [.ref a, .ref c] ∧ FsAt H a fs ∧ FOk 63 fs ∧ Tabs T H ∧ H c = some (.lst (cs.map V.str)) ∧
  ∀ H' p, Mod T [] H H' → H p = none → Rows H' p (encs (unshOf fs cs)) → Q (.ref p) H'
theorem sc_unsh : FnScope ["files", "contents", "deeds", "path"] ["files", "contents"] (defScope s_unshelving) := ⟨rfl, rfl, rfl, by decide +kernel, rfl, by decide +kernel, by decide +kernel⟩
theorem ok_unsh (D : PwDef K mg "unshelving" s_unshelving) (cS : Cal P w K mg base 5 "shelves" (spSh T) []) (mN : ∃ t, mg "NEW" = some (.str NEW t)) : Cal P w K mg base 6 "unshelving" (spUnsh T) [] := by
  obtain ⟨tN, mN⟩ := mN
  refine cal_of D sc_unsh (fun _ _ _ _ _ _ us hl => match us, hl with | [_, _], _ => rfl) (fun vs H Q E h => ?_) (fun f cdv A outer s H vs Q E hr h => ?_)
  · obtain ⟨a, c, fs, cs, rfl, _⟩ := h
    rfl
  · obtain ⟨a, c, fs, cs, rfl, hA, hok, hT, hC, q⟩ := h
    have hA : H a = some (.dK (dS fs)) := hA
    refine ⟨_, pss_cons (ps_setLc (i := 2) (own := [("path", 3)]) (g := gName 3) (by rfl) sc_unsh.nd rfl rfl (sw_true rfl rfl rfl (by decide +kernel)) (pi_list (C8.pe_c cS hr (by decide) rfl (pa_cons (pv 0) pa_nil)))
        (blkOk_by (own := [("path", 3)]) (N := ["files", "contents", "deeds", "path"]) (sc := defScope s_unshelving) (by decide +kernel)) (fun _ _ _ _ _ => pg_name (i := 3) sc_unsh.nd rfl (Or.inl rfl))
        (fun _ _ _ _ _ => pts_one (pt_cmpR (notIn_k (K := K)) (pe_dget (hu_of hr) (pv 0) (pv 3) (fun _ _ => rfl)) (pv 1) (by rfl))) (fun _ _ _ _ _ => pe_tup (pa_cons pe_str (pa_cons (pv 3) pa_nil))))
      (pss_one (ps_ret (pe_ifExp (pt_cmp (pc_din (hu_of hr) (pe_glob (v := .str NEW) rfl mN ⟨_, rfl⟩) (pv 0)) (by rfl))
        (pe_op op_cat (pv 2) (pe_lst (pa_cons (pe_tup (pa_cons pe_str (pa_cons (pe_glob (v := .str NEW) rfl mN ⟨_, rfl⟩) pa_nil))) pa_nil))) (pv 2)))), ?_⟩
    refine ⟨_, rfl, a, fs, rfl, hA, hok.mono (by decide), hT, fun H1 l m1 nl el => ?_⟩
    refine ⟨l, rfl, ⟨_, SqL.of el⟩, fun B hB => ?_⟩
    have hle := shelf_len hok
    refine lc_it (walk_list (xs := (shelvesOf fs).map V.str)) (fun i H' => Mod T [] H1 H' ∧ Rows H' B (dropRows (((shelvesOf fs).take i).filter fun p => !decide (cAt fs p ∈ cs)))) ⟨Mod.new hB, [], upd_same, .nil⟩ (fun i H' _ hp => hp.1.sql (SqL.of el)) (fun i x H2 H3 hi hp hy => ?_) (fun H2 hp => ?_)
    · obtain ⟨m2, as, e2, t2⟩ := hp
      obtain ⟨rfl, hx⟩ := hy
      obtain ⟨pp, hpp, rfl⟩ := Option.map_eq_some_iff.mp ((List.getElem?_map (f := V.str) ▸ hx : _))
      obtain ⟨cc, hcc⟩ := Option.isSome_iff_exists.mp (shelf_at (List.mem_of_getElem? hpp)).1
      have hcA : cAt fs pp = cc := by unfold cAt; rw [hcc]; rfl
      have g := dget_of ((m1.trans m2).dK hA) pp
      rw [hcc] at g
      have hlen2 := paired_len t2
      unfold dropRows at hlen2
      rw [List.length_map] at hlen2
      have h2 := List.length_filter_le (fun p => !decide (cAt fs p ∈ cs)) ((shelvesOf fs).take i)
      rw [List.length_take] at h2
      refine ⟨rfl, ?_⟩
      refine ⟨_, rfl, _, rfl, a, .str cc, rfl, g, _, rfl, c, cs.map V.str, rfl, .inl (SqL.of ((m1.trans m2).lst hC)), rfl, flat_strs cs, _, rfl, ?_⟩
      rw [inV_strs]
      refine ite2 (fun hn => ?_) (fun hn => ?_)
      · have hn : ¬ cc ∈ cs := by simpa using hn
        refine ⟨_, rfl, (by show 2 ≤ sizeLine; decide), fun u hu => ?_⟩
        have n1 : Mod T [] H3 (upd H3 u (.tup [.str (Str.ofString "drop"), .str pp])) := Mod.new hu
        have eu : (upd H3 u (.tup [.str (Str.ofString "drop"), .str pp])) u = some (.tup [.str (Str.ofString "drop"), .str pp]) := upd_same
        generalize upd H3 u (.tup [.str (Str.ofString "drop"), .str pp]) = H4 at n1 eu
        refine ⟨_, n1.lst e2, ?_, (m2.trans n1).own hB (n1.lst e2) pl_lst, as ++ [u], ?_, ?_⟩
        · rw [List.length_map]
          exact small_lt (by omega)
        · rw [upd_same, List.map_append]
          rfl
        · have e : dropRows (((shelvesOf fs).take (i + 1)).filter fun p => !decide (cAt fs p ∈ cs)) = dropRows (((shelvesOf fs).take i).filter fun p => !decide (cAt fs p ∈ cs)) ++ [[sDrop, pp]] := by
            unfold dropRows
            rw [take_snoc hpp, List.filter_append, List.map_append]
            congr 1
            simp [hcA, hn]
          rw [e]
          exact paired_app (tups_upd (n1.lst e2) (fun _ z => by cases z) (tups_mod n1 t2)) (.cons (upd_tup (n1.lst e2) (fun _ z => by cases z) eu) .nil)
      · have hn : cc ∈ cs := by simpa using hn
        refine ⟨m2, as, e2, ?_⟩
        have e : ((shelvesOf fs).take (i + 1)).filter (fun p => !decide (cAt fs p ∈ cs)) = ((shelvesOf fs).take i).filter fun p => !decide (cAt fs p ∈ cs) := by
          rw [take_snoc hpp, List.filter_append]
          simp [hcA, hn]
        rw [e]
        exact t2
    · obtain ⟨m2, as, e2, t2⟩ := hp
      rw [List.length_map, List.take_of_length_le (Nat.le_refl _)] at t2
      have mA := m1.trans m2
      have nB := m1.old B hB
      have hlen2 := paired_len t2
      unfold dropRows at hlen2
      rw [List.length_map] at hlen2
      have h2 := List.length_filter_le (fun p => !decide (cAt fs p ∈ cs)) (shelvesOf fs)
      have g := dget_of (mA.dK hA) NEW
      have eE : encs (unshOf fs cs) = dropRows (dropsOf fs cs) := by
        unfold encs unshOf dropRows
        rw [List.map_map]
        rfl
      rw [eE] at q
      refine ⟨_, rfl, a, _, rfl, g, _, rfl, ?_⟩
      refine ite2 (fun hn => ?_) (fun hn => ?_)
      · rw [Option.isSome_map] at hn
        refine ⟨_, rfl, (by show 2 ≤ sizeLine; decide), fun u hu => ?_⟩
        have n1 : Mod T [] H2 (upd H2 u (.tup [.str (Str.ofString "drop"), .str NEW])) := Mod.new hu
        have eu : (upd H2 u (.tup [.str (Str.ofString "drop"), .str NEW])) u = some (.tup [.str (Str.ofString "drop"), .str NEW]) := upd_same
        generalize upd H2 u (.tup [.str (Str.ofString "drop"), .str NEW]) = H4 at n1 eu
        refine ⟨(by show 1 ≤ sizeLine; decide), fun r hr => ?_⟩
        have n2 : Mod T [] H4 (upd H4 r (.lst [.ref u])) := Mod.new hr
        have er : (upd H4 r (.lst [.ref u])) r = some (.lst [.ref u]) := upd_same
        generalize upd H4 r (.lst [.ref u]) = H5 at n2 er
        have nn := n1.trans n2
        refine ⟨B, r, _, _, rfl, rfl, nn.lst e2, er, ?_, fun z hz => ?_⟩
        · rw [List.length_map]
          show _ + 1 ≤ _
          exact small_sz (by omega)
        · have n3 : Mod T [] H5 (upd H5 z (.lst (as.map V.ref ++ [.ref u]))) := Mod.new hz
          refine q _ z ((mA.trans nn).trans n3) ((mA.trans nn).old z hz) ⟨as ++ [u], ?_, ?_⟩
          · rw [upd_same, List.map_append]
            rfl
          · have e : dropRows (dropsOf fs cs) = dropRows ((shelvesOf fs).filter fun p => !decide (cAt fs p ∈ cs)) ++ [[sDrop, NEW]] := by
              unfold dropRows dropsOf
              rw [if_pos hn, List.map_append]
              rfl
            rw [e]
            exact paired_app (tups_mod (nn.trans n3) t2) (.cons ((n2.trans n3).tup eu) .nil)
      · rw [Option.isSome_map] at hn
        refine ⟨_, rfl, q H2 B mA nB ⟨as, e2, ?_⟩⟩
        have e : dropsOf fs cs = (shelvesOf fs).filter fun p => !decide (cAt fs p ∈ cs) := by
          unfold dropsOf
          rw [if_neg hn, List.append_nil]
        rw [e]
        exact t2
end Pw

set_option maxHeartbeats 4000000
namespace Pw
open PySem PySem.Spec PyProof.Rows L2 LamX
variable {P : Program} {w : World} {K : PySem.W.Frag} {mg : Str → Option Value} {base : Heap} {T : List (Addr × Str)}
theorem rd_isD {H : Hp} {a : Addr} {fs : Fs} (h : H a = some (.dK (dS fs))) : IsD H a := .inl ⟨_, .inl h⟩
def spDone (T : List (Addr × Str)) : Sp := fun vs H Q _ => ∃ (a d : Addr) (fs : Fs) (dd : Deed), vs = [.ref a, .ref d] ∧ FsAt H a fs ∧ H d = some (.tup (dd.enc.map V.str)) ∧ fs.length ≤ 5000 ∧ ∀ H', Mod T [a] H H' → FsAt H' a (doOne fs dd) → Q .non H'
theorem sc_done : FnScope ["files", "deed"] ["files", "deed"] (defScope s_done) := ⟨rfl, rfl, rfl, by decide +kernel, rfl, by decide +kernel, by decide +kernel⟩
theorem ne_pd : sDrop ≠ sPut := by decide +kernel
theorem ne_pm : sMove ≠ sPut := by decide +kernel
theorem ne_dm : sMove ≠ sDrop := by decide +kernel
theorem dec_f {a b : Str} (h : a ≠ b) : ¬ decide (V.str a = V.str b) = true := fun z => h (V.str.inj (of_decide_eq_true z))
theorem dec_t {a : Str} : decide (V.str a = V.str a) = true := decide_eq_true rfl
theorem ok_done (D : PwDef K mg "done" s_done) : Cal P w K mg base 1 "done" (spDone T) [] := by
  refine cal_of D sc_done (fun _ _ _ _ _ _ us hl => match us, hl with | [_, _], _ => rfl) (fun vs H Q E h => ?_) (fun f cdv A outer s H vs Q E hr h => ?_)
  · obtain ⟨a, d, fs, dd, rfl, _⟩ := h
    rfl
  · obtain ⟨a, d, fs, dd, rfl, hA, hD, hl, q⟩ := h
    have hA : H a = some (.dK (dS fs)) := hA
    refine ⟨_, pss_one (ps_if (pt_cmpR op_eq (pe_ix ix_tup (pv 1) pe_int (fun _ _ => rfl)) pe_str (nomark _))
        (pss_one (ps_dput (hu_of hr) (pv 0) (pe_ix ix_tup (pv 1) pe_int (fun _ _ => rfl)) (pe_ix ix_tup (pv 1) pe_int (fun _ _ => rfl)) rfl))
        (pss_one (ps_if (pt_cmpR op_eq (pe_ix ix_tup (pv 1) pe_int (fun _ _ => rfl)) pe_str (nomark _))
          (pss_one (ps_expr (pe_dpop2 (pv 0) (pe_ix ix_tup (pv 1) pe_int (fun _ _ => rfl)) pe_non (by constructor <;> rfl))))
          (pss_one (ps_if (pt_cmp (pc_din (hu_of hr) (pe_ix ix_tup (pv 1) pe_int (fun _ _ => rfl)) (pv 0)) (by rfl))
            (pss_one (ps_dput (hu_of hr) (pv 0) (pe_ix ix_tup (pv 1) pe_int (fun _ _ => rfl)) (pe_dpop1 (pv 0) (pe_ix ix_tup (pv 1) pe_int (fun _ _ => rfl)) (by constructor <;> rfl)) rfl))
            pss_nil))))), ?_⟩
    cases dd with
    | put p c =>
      refine ⟨_, rfl, d, _, 0, .str sPut, rfl, rfl, SqT.of hD, atI_nat (j := 0) rfl, rfl, _, rfl, ?_⟩
      refine ite2 (fun _ => ?_) (fun h => absurd dec_t h)
      refine ⟨_, rfl, d, _, 2, .str c, rfl, rfl, SqT.of hD, atI_nat (j := 2) rfl, ?_⟩
      refine ⟨_, rfl, _, rfl, d, _, 1, .str p, rfl, rfl, SqT.of hD, atI_nat (j := 1) rfl, a, _, rfl, dput_of hA p c (small_lt (by omega)), ?_⟩
      exact q _ (Mod.set hA pl_dK (by simp)) upd_same
    | drop p =>
      refine ⟨_, rfl, d, _, 0, .str sDrop, rfl, rfl, SqT.of hD, atI_nat (j := 0) rfl, rfl, _, rfl, ?_⟩
      refine ite2 (fun h => absurd h (dec_f ne_pd)) (fun _ => ?_)
      refine ⟨_, rfl, d, _, 0, .str sDrop, rfl, rfl, SqT.of hD, atI_nat (j := 0) rfl, rfl, _, rfl, ?_⟩
      refine ite2 (fun _ => ?_) (fun h => absurd dec_t h)
      refine ⟨_, rfl, a, rfl, rd_isD hA, _, rfl, d, _, 1, .str p, rfl, rfl, SqT.of hD, atI_nat (j := 1) rfl, dS fs, Sum.inr p, hA, rfl, fun v hv => ?_, fun hv => ?_⟩
      · refine q _ (Mod.set hA pl_dK (by simp)) ?_
        show upd H a _ a = _
        rw [upd_same]
        exact congrArg (fun z => some (HO.dK z)) (drop_dk fs p)
      · refine q _ (Mod.refl H) ?_
        rw [val_dk] at hv
        show H a = some (.dK (dS (drp fs p)))
        rw [drp_out (Option.map_eq_none_iff.mp hv)]
        exact hA
    | move p r =>
      refine ⟨_, rfl, d, _, 0, .str sMove, rfl, rfl, SqT.of hD, atI_nat (j := 0) rfl, rfl, _, rfl, ?_⟩
      refine ite2 (fun h => absurd h (dec_f ne_pm)) (fun _ => ?_)
      refine ⟨_, rfl, d, _, 0, .str sMove, rfl, rfl, SqT.of hD, atI_nat (j := 0) rfl, rfl, _, rfl, ?_⟩
      refine ite2 (fun h => absurd h (dec_f ne_dm)) (fun _ => ?_)
      refine ⟨_, rfl, d, _, 1, .str p, rfl, rfl, SqT.of hD, atI_nat (j := 1) rfl, _, rfl, a, _, rfl, dget_of hA p, _, rfl, ?_⟩
      refine ite2 (fun h => ?_) (fun h => ?_)
      · rw [Option.isSome_map] at h
        obtain ⟨x, hx⟩ := Option.isSome_iff_exists.mp h
        have hv : valV (dS fs) (Sum.inr p) = some (.str x) := by
          rw [val_dk, hx]
          rfl
        have eA : (upd H a (.dK (dropK (dS fs) (Sum.inr p)))) a = some (.dK (dS (drp fs p))) := by
          rw [upd_same]
          exact congrArg (fun z => some (HO.dK z)) (drop_dk fs p)
        have eD := upd_tup (o := .dK (dropK (dS fs) (Sum.inr p))) hA (fun _ z => by cases z) hD
        have m1 : Mod T [a] H (upd H a (.dK (dropK (dS fs) (Sum.inr p)))) := Mod.set hA pl_dK (by simp)
        refine ⟨_, rfl, a, rfl, rd_isD hA, _, rfl, d, _, 1, .str p, rfl, rfl, SqT.of hD, atI_nat (j := 1) rfl, dS fs, Sum.inr p, .str x, hA, rfl, hv, ?_⟩
        have hl2 := len_drp_le fs p
        refine ⟨_, rfl, _, rfl, d, _, 2, .str r, rfl, rfl, SqT.of eD, atI_nat (j := 2) rfl, a, _, rfl, dput_of eA r x (small_lt (by omega)), ?_⟩
        refine q _ (m1.trans (Mod.set eA pl_dK (by simp))) ?_
        rw [doOne_some hx]
        exact upd_same
      · rw [Option.isSome_map] at h
        refine q H (Mod.refl H) ?_
        rw [doOne_none]
        · exact hA
        · cases z : look fs p with
          | none => rfl
          | some _ =>
            rw [z] at h
            exact absurd rfl h

def spOrd (T : List (Addr × Str)) : Sp := fun vs H Q _ => ∃ (a : Addr) (fs : Fs), vs = [.ref a] ∧ FsAt H a fs ∧ (fs.map (·.1)).Nodup ∧ fs.length ≤ 63 ∧ ∀ H' p, Mod T [] H H' → H p = none → FsAt H' p (inOrd fs) → Q (.ref p) H'
theorem sc_ord : FnScope ["files", "path"] ["files"] (defScope s_in_order) := ⟨rfl, rfl, rfl, by decide +kernel, rfl, by decide +kernel, by decide +kernel⟩
theorem ok_ord (D : PwDef K mg "in_order" s_in_order) (ms : mg "sorted" = none) : Cal P w K mg base 1 "in_order" (spOrd T) [] := by
  refine cal_of D sc_ord (fun _ _ _ _ _ _ us hl => match us, hl with | [_], _ => rfl) (fun vs H Q E h => ?_) (fun f cdv A outer s H vs Q E hr h => ?_)
  · obtain ⟨a, fs, rfl, _⟩ := h
    rfl
  · obtain ⟨a, fs, rfl, hA, nd, hl, q⟩ := h
    have hA : H a = some (.dK (dS fs)) := hA
    refine ⟨_, pss_one (ps_ret (pe_dc (own := [("path", 1)]) (g := gName 1) rfl sc_ord.nd (pi_list (pe_callB (call_sortedD rfl) (by rfl) ms (by decide +kernel) (pa_cons (pv 0) pa_nil)))
        (blkOk_by (own := [("path", 1)]) (N := ["files", "path"]) (sc := defScope s_in_order) (by decide +kernel)) (fun _ _ _ _ _ => pg_name (i := 1) sc_ord.nd rfl (Or.inl rfl)) (fun _ _ _ _ _ => pts_nil)
        (fun _ _ _ _ _ => pv 1) (fun _ _ _ _ _ => pe_dget (hu_of hr) (pv 0) (pv 1) (fun _ _ => rfl)))), ?_⟩
    refine ⟨_, rfl, a, dS fs, fs.map (·.1), rfl, .inl hA, keys_dk _, by rw [List.length_map]; omega, fun ys l hys1 hys2 hl => ?_⟩
    have eys := sortS_eq hys1 hys2
    subst eys
    have m2 : Mod T [] H (upd H l (.lst ((sortS (fs.map (·.1))).map V.str))) := Mod.new hl
    have el : (upd H l (.lst ((sortS (fs.map (·.1))).map V.str))) l = some (.lst ((sortS (fs.map (·.1))).map V.str)) := upd_same
    generalize upd H l (.lst ((sortS (fs.map (·.1))).map V.str)) = H2 at m2 el
    refine ⟨l, rfl, ⟨_, SqL.of el⟩, fun B hB => ?_⟩
    have ndS := sortS_nodup nd
    have lenS : (sortS (fs.map (·.1))).length ≤ 63 := by
      rw [sortS_len, List.length_map]
      omega
    refine dc_it (walk_list (xs := (sortS (fs.map (·.1))).map V.str)) (fun i H' => Mod T [] H2 H' ∧ H' B = some (.dK (dS (((sortS (fs.map (·.1))).take i).map fun c => (c, cAt fs c))))) ⟨Mod.new hB, upd_same⟩ (fun i H' _ hp => hp.1.sql (SqL.of el)) (fun i x H3 H4 hi hp hy => ?_) (fun H3 hp => ?_)
    · obtain ⟨m3, e3⟩ := hp
      obtain ⟨rfl, hx⟩ := hy
      obtain ⟨cc, hcc, rfl⟩ := Option.map_eq_some_iff.mp ((List.getElem?_map (f := V.str) ▸ hx : _))
      have hin : (look fs cc).isSome = true := look_some_iff.mpr (sortS_mem.mp (List.mem_of_getElem? hcc))
      obtain ⟨pp, hpp⟩ := Option.isSome_iff_exists.mp hin
      have g := dget_of ((m2.trans m3).dK hA) cc
      rw [hpp] at g
      have hcA : cAt fs cc = pp := by unfold cAt; rw [hpp]; rfl
      refine ⟨rfl, yes_ (iteT ?_)⟩
      refine ⟨_, rfl, _, rfl, _, rfl, a, .str pp, rfl, g, _, Sum.inr cc, rfl, e3, ?_, m3.own hB e3 pl_dK, ?_⟩
      · rw [dS_len, List.length_map, List.length_take]
        exact small_lt (by omega)
      · rw [upd_same]
        have z := put_dk (f := V.str) (((sortS (fs.map (·.1))).take i).map fun c => (c, cAt fs c)) cc pp
        rw [← hcA, put_tab (f := cAt fs) (nd_take ndS hcc), ← take_snoc hcc, hcA] at z
        exact congrArg (fun z => some (HO.dK z)) z
    · obtain ⟨m3, e3⟩ := hp
      rw [List.length_map, List.take_of_length_le (Nat.le_refl _)] at e3
      exact q H3 B (m2.trans m3) (m2.old B hB) e3

theorem len_doOne (fs : Fs) (d : Deed) : (doOne fs d).length ≤ fs.length + 1 := by
  cases d with
  | put p c => exact len_put_le _ _ _
  | drop p => exact Nat.le_succ_of_le (len_drp_le _ _)
  | move p r =>
    cases h : look fs p with
    | none =>
      rw [doOne_none h]
      omega
    | some x =>
      rw [doOne_some h]
      have h1 := len_put_le (drp fs p) r x
      have h2 := len_drp_le fs p
      omega
theorem len_doAll : ∀ (ds : List Deed) (fs : Fs), (doAll fs ds).length ≤ fs.length + ds.length
  | [], fs => Nat.le_refl _
  | d :: ds, fs => by
    rw [doAll_cons, List.length_cons]
    have h1 := len_doAll ds (doOne fs d)
    have h2 := len_doOne fs d
    omega
def spAfter (T : List (Addr × Str)) : Sp := fun vs H Q _ => ∃ (a c : Addr) (fs : Fs) (ds : List Deed), vs = [.ref a, .ref c] ∧ FsAt H a fs ∧ Rows H c (encs ds) ∧ (fs.map (·.1)).Nodup ∧ fs.length ≤ 63 ∧ ds.length ≤ 1000 ∧ (doAll fs ds).length ≤ 63 ∧
  ∀ H' p, Mod T [] H H' → H p = none → FsAt H' p (inOrd (doAll fs ds)) → Q (.ref p) H'
theorem sc_after : FnScope ["files", "deeds", "found", "deed"] ["files", "deeds"] (defScope s_after) := ⟨rfl, rfl, rfl, by decide +kernel, rfl, by decide +kernel, by decide +kernel⟩
theorem ok_after (D : PwDef K mg "after" s_after) (cD : Cal P w K mg base 1 "done" (spDone T) []) (cO : Cal P w K mg base 1 "in_order" (spOrd T) []) (md : mg "dict" = none) : Cal P w K mg base 2 "after" (spAfter T) [] := by
  refine cal_of D sc_after (fun _ _ _ _ _ _ us hl => match us, hl with | [_, _], _ => rfl) (fun vs H Q E h => ?_) (fun f cdv A outer s H vs Q E hr h => ?_)
  · obtain ⟨a, c, fs, ds, rfl, _⟩ := h
    rfl
  · obtain ⟨a, c, fs, ds, rfl, hA, hR, nd, hl, hd, hl2, q⟩ := h
    have hA : H a = some (.dK (dS fs)) := hA
    refine ⟨_, pss_cons (ps_set (i := 2) sc_after.nd rfl (.inl rfl) (pe_callTy call_dictD (by rfl) md (by decide +kernel) (pa_cons (pv 0) pa_nil)))
      (pss_cons (ps_for PassesOwn.never rfl (pi_list (pv 1)) (pg_name (i := 3) sc_after.nd rfl (.inl rfl)) (pss_one (ps_expr (C8.pe_c cD hr (by decide) rfl (pa_cons (pv 2) (pa_cons (pv 3) pa_nil))))))
      (pss_one (ps_ret (C8.pe_c cO hr (by decide) rfl (pa_cons (pv 2) pa_nil))))), ?_⟩
    refine ⟨_, rfl, a, dS fs, rfl, .inl hA, fun d hdn => ?_⟩
    have m0 : Mod T [] H (upd H d (.dK (dS fs))) := Mod.new hdn
    have e0 : (upd H d (.dK (dS fs))) d = some (.dK (dS fs)) := upd_same
    generalize upd H d (.dK (dS fs)) = H0 at m0 e0
    obtain ⟨as, hc, ht⟩ := hR
    refine ⟨_, rfl, c, rfl, ⟨_, SqL.of (m0.lst hc)⟩, ?_⟩
    refine for_list (xs := as.map V.ref) (fun i σ' H' => ∃ y, σ' = [some (.ref a), some (.ref c), some (.ref d), y] ∧ Mod T [] H H' ∧ FsAt H' d (doAll fs (ds.take i))) ⟨none, rfl, m0, e0⟩ (fun i σ' H' _ ⟨_, _, m, _⟩ => SqL.of (m.lst hc)) (fun i x σ' H' hx ⟨y, es, m, ed⟩ => ?_) (fun σ' H' ⟨y, es, m, ed⟩ => ?_)
    · subst es
      obtain ⟨u, hu, rfl⟩ := Option.map_eq_some_iff.mp ((List.getElem?_map (f := V.ref) ▸ hx : _))
      obtain ⟨row, hrow, eu⟩ := paired_get' ht hu
      unfold encs at hrow
      rw [List.getElem?_map] at hrow
      obtain ⟨dd, hdd, rfl⟩ := Option.map_eq_some_iff.mp hrow
      have hlen := len_doAll (ds.take i) fs
      rw [List.length_take] at hlen
      refine ⟨_, rfl, _, rfl, d, u, doAll fs (ds.take i), dd, rfl, ed, m.tup eu, by omega, fun H2 m2 e2 => ?_⟩
      refine ⟨some (.ref u), rfl, (m.any.trans m2).drop hdn, ?_⟩
      rw [take_snoc hdd, doAll_snoc]
      exact e2
    · subst es
      have hal : as.length = ds.length := by
        have := paired_len ht
        unfold encs at this
        rw [List.length_map] at this
        exact this
      have ed : H' d = some (.dK (dS (doAll fs ds))) := by
        have z := ed
        rw [List.length_map, hal, List.take_of_length_le (Nat.le_refl _)] at z
        exact z
      refine ⟨_, rfl, d, doAll fs ds, rfl, ed, doAll_nd ds nd, hl2, fun H2 p m2 np e2 => q H2 p (m.trans m2) (m.old p np) e2⟩
end Pw

set_option maxHeartbeats 4000000
namespace Pw
open PySem PySem.Spec PyProof.Rows L2 LamX
variable {P : Program} {w : World} {K : PySem.W.Frag} {mg : Str → Option Value} {base : Heap} {T : List (Addr × Str)}
theorem refs_to (as : List Addr) (m : Nat) : cutV (as.map V.ref) none (some (m : Int)) = (as.take m).map V.ref := by
  unfold cutV
  rw [HT.sIx_none, HT.sIx_nat]
  rw [Nat.sub_zero, List.drop_zero, List.length_map, List.map_take]
  rcases Nat.le_total m as.length with h | h
  · rw [Nat.min_eq_left h]
  · rw [Nat.min_eq_right h, List.take_of_length_le (by rw [List.length_map]; exact Nat.le_refl _), List.take_of_length_le (by rw [List.length_map]; exact h)]
theorem strs_to (as : List Str) (m : Nat) : cutV (as.map V.str) none (some (m : Int)) = (as.take m).map V.str := by
  unfold cutV
  rw [HT.sIx_none, HT.sIx_nat]
  rw [Nat.sub_zero, List.drop_zero, List.length_map, List.map_take]
  rcases Nat.le_total m as.length with h | h
  · rw [Nat.min_eq_left h]
  · rw [Nat.min_eq_right h, List.take_of_length_le (by rw [List.length_map]; exact Nat.le_refl _), List.take_of_length_le (by rw [List.length_map]; exact h)]
theorem paired_take {α β : Type} {F : α → β → Prop} : ∀ {l : List α} {m : List β} (n : Nat), Paired F l m → Paired F (l.take n) (m.take n)
  | _, _, 0, _ => .nil
  | _, _, _ + 1, .nil => .nil
  | _, _, n + 1, .cons r t => .cons r (paired_take n t)
theorem encs_take (ds : List Deed) (m : Nat) : (encs ds).take m = encs (ds.take m) := by
  unfold encs
  rw [List.map_take]
/-- contents of deeds are short -/
def Short (ds : List Deed) : Prop := ∀ p c, Deed.put p c ∈ ds → c.length ≤ 1000
def spCut (T : List (Addr × Str)) : Sp := fun vs H Q _ => ∃ (a c : Addr) (fs : Fs) (ds : List Deed) (m : Nat) (s : Option Nat), vs = [.ref a, .ref c, .int (m : Int), noV s] ∧ FsAt H a fs ∧ Rows H c (encs ds) ∧ (fs.map (·.1)).Nodup ∧ fs.length ≤ 62 ∧ ds.length ≤ 1000 ∧ m ≤ ds.length ∧ (doAll fs (ds.take m)).length ≤ 62 ∧ Short ds ∧
  ∀ H' p, Mod T [] H H' → H p = none → FsAt H' p (cutOf fs ds m s) → Q (.ref p) H'
theorem sc_cut : FnScope ["files", "deeds", "many", "signs", "found"] ["files", "deeds", "many", "signs"] (defScope s_cut) := ⟨rfl, rfl, rfl, by decide +kernel, rfl, by decide +kernel, by decide +kernel⟩
theorem ok_cut (D : PwDef K mg "cut" s_cut) (cA : Cal P w K mg base 2 "after" (spAfter T) []) (cO : Cal P w K mg base 1 "in_order" (spOrd T) []) (ml : mg "len" = none) : Cal P w K mg base 3 "cut" (spCut T) [] := by
  refine cal_of D sc_cut (fun _ _ _ _ _ _ us hl => match us, hl with | [_, _, _, _], _ => rfl) (fun vs H Q E h => ?_) (fun f cdv A outer s H vs Q E hr h => ?_)
  · obtain ⟨a, c, fs, ds, m, s, rfl, _⟩ := h
    rfl
  · obtain ⟨a, c, fs, ds, m, sg, rfl, hA, hR, nd, hl, hd, hm, hl2, hsh, q⟩ := h
    have hA : H a = some (.dK (dS fs)) := hA
    obtain ⟨as, hc, ht⟩ := hR
    have hal : as.length = ds.length := by
      have := paired_len ht
      unfold encs at this
      rw [List.length_map] at this
      exact this
    refine ⟨_, pss_cons (ps_set (i := 4) sc_cut.nd rfl (.inl rfl) (C8.pe_c cA hr (by decide) rfl (pa_cons (pv 0) (pa_cons (pe_slice sl_list (pv 1) po_none (po_some (pv 2))) pa_nil))))
      (pss_cons (ps_if (PW.pt (pw_and (pt_cmp (pc_notN (pv 3)) (by rfl)) (pw_and (pt_cmpR op_lt (pv 2) (pe_callB call_len_seq (by rfl) ml PySem.boot_len (pa_cons (pv 1) pa_nil)) (nomark _)) (pw_and1 (pt_cmpR op_eq (pe_ix ix_tup (pe_ix ix_list (pv 1) (pv 2) (fun _ _ => rfl)) pe_int (fun _ _ => rfl)) pe_str (nomark _))))))
        (pss_one (ps_dput (hu_of hr) (pv 4) (pe_ix ix_tup (pe_ix ix_list (pv 1) (pv 2) (fun _ _ => rfl)) pe_int (fun _ _ => rfl)) (pe_slice sl_str (pe_ix ix_tup (pe_ix ix_list (pv 1) (pv 2) (fun _ _ => rfl)) pe_int (fun _ _ => rfl)) po_none (po_some (pv 3))) rfl)) pss_nil)
      (pss_one (ps_ret (C8.pe_c cO hr (by decide) rfl (pa_cons (pv 4) pa_nil))))), ?_⟩
    refine ⟨_, rfl, _, rfl, _, rfl, (m : Int), rfl, c, as.map V.ref, rfl, SqL.of hc, fun l hln => ?_⟩
    rw [refs_to]
    have m0 : Mod T [] H (upd H l (.lst ((as.take m).map V.ref))) := Mod.new hln
    have e0 : (upd H l (.lst ((as.take m).map V.ref))) l = some (.lst ((as.take m).map V.ref)) := upd_same
    generalize upd H l (.lst ((as.take m).map V.ref)) = H0 at m0 e0
    refine ⟨a, l, fs, ds.take m, rfl, m0.dK hA, ⟨_, e0, ?_⟩, nd, by omega, by rw [List.length_take]; omega, by omega, fun H1 p m1 np ep => ?_⟩
    · rw [← encs_take]
      exact paired_take m (tups_mod m0 ht)
    have m01 := m0.trans m1
    have nP := m0.old p np
    have ep : H1 p = some (.dK (dS (inOrd (doAll fs (ds.take m))))) := ep
    have ndD : ((inOrd (doAll fs (ds.take m))).map (·.1)).Nodup := inOrd_nd (doAll_nd _ nd)
    -- the end, with what stands at p
    have fin : ∀ (H2 : Hp) (gs : Fs), Mod T [] H H2 → H2 p = some (.dK (dS gs)) → (gs.map (·.1)).Nodup → gs.length ≤ 63 → cutOf fs ds m sg = inOrd gs →
        spOrd T [.ref p] H2 (fun v H3 => Q v H3) E := fun H2 gs m2 e2 n2 l2 ec => ⟨p, gs, rfl, e2, n2, l2, fun H' r m3 nr er => q H' r (m2.trans m3) (m2.old r nr) (by rw [ec]; exact er)⟩
    have lenO : (inOrd (doAll fs (ds.take m))).length ≤ 62 := by rw [inOrd_len]; exact hl2
    refine ⟨_, rfl, _, rfl, ?_⟩
    cases sg with
    | none =>
      refine iteF ?_
      refine ⟨_, rfl, fin H1 _ m01 ep ndD (by omega) rfl⟩
    | some k =>
      refine iteT ?_
      refine ⟨_, rfl, _, rfl, c, _, rfl, .inl (SqL.of (m01.lst hc)), _, _, rfl, rfl, _, rfl, ?_⟩
      rw [List.length_map, hal]
      refine ite2 (fun h => ?_) (fun h => ?_)
      · have hlt : m < ds.length := by
          have := of_decide_eq_true h
          omega
        obtain ⟨dd, hdd⟩ : ∃ dd, ds[m]? = some dd := ⟨ds[m], by simp [hlt]⟩
        have hrow : (encs ds)[m]? = some dd.enc := by
          unfold encs
          rw [List.getElem?_map, hdd]
          rfl
        obtain ⟨u, hu, eu⟩ := paired_get ht hrow
        have hu' : (as.map V.ref)[m]? = some (.ref u) := by
          rw [List.getElem?_map, hu]
          rfl
        have cT := SqL.of (K := K) (m01.lst hc)
        have uT := SqT.of (K := K) (m01.tup eu)
        cases dd with
        | put x y =>
          refine ⟨_, rfl, _, rfl, c, _, _, _, rfl, rfl, cT, atI_nat hu', u, _, 0, .str sPut, rfl, rfl, uT, atI_nat (j := 0) rfl, rfl, _, rfl, ?_⟩
          refine iteT ?_
          have dp := dput_of ep x (takeS k y) (small_lt (by omega))
          refine ⟨_, rfl, _, rfl, c, _, _, _, rfl, rfl, cT, atI_nat hu', u, _, 2, .str y, rfl, rfl, uT, atI_nat (j := 2) rfl, _, rfl, (k : Int), rfl, y, rfl, small_sz (by have := hsh x y (List.mem_of_getElem? hdd); omega), ?_⟩
          refine ⟨_, rfl, _, rfl, _, rfl, c, _, _, _, rfl, rfl, cT, atI_nat hu', u, _, 1, .str x, rfl, rfl, uT, atI_nat (j := 1) rfl, p, _, rfl, dp, ?_⟩
          refine ⟨_, rfl, fin _ _ (m01.own nP ep pl_dK) upd_same (nd_put _ _ ndD) ?_ ?_⟩
          · have := len_put_le (inOrd (doAll fs (ds.take m))) x (takeS k y)
            omega
          · unfold cutOf
            rw [hdd]
        | drop x =>
          refine ⟨_, rfl, _, rfl, c, _, _, _, rfl, rfl, cT, atI_nat hu', u, _, 0, .str sDrop, rfl, rfl, uT, atI_nat (j := 0) rfl, rfl, _, rfl, ?_⟩
          refine ite2 (fun h => absurd h (dec_f ne_pd)) (fun _ => ?_)
          refine ⟨_, rfl, fin H1 _ m01 ep ndD (by omega) ?_⟩
          unfold cutOf
          rw [hdd]
        | move x y =>
          refine ⟨_, rfl, _, rfl, c, _, _, _, rfl, rfl, cT, atI_nat hu', u, _, 0, .str sMove, rfl, rfl, uT, atI_nat (j := 0) rfl, rfl, _, rfl, ?_⟩
          refine ite2 (fun h => absurd h (dec_f ne_pm)) (fun _ => ?_)
          refine ⟨_, rfl, fin H1 _ m01 ep ndD (by omega) ?_⟩
          unfold cutOf
          rw [hdd]
      · have hge : ¬ m < ds.length := fun z => h (decide_eq_true (by omega))
        have hdd : ds[m]? = none := by simp; omega
        refine ⟨_, rfl, fin H1 _ m01 ep ndD (by omega) ?_⟩
        unfold cutOf
        rw [hdd]
theorem signs_len {ds : List Deed} (h : Short ds) (m : Nat) : (signsOf ds m).length ≤ 1001 := by
  unfold signsOf
  split
  · rename_i p c e
    rw [List.length_cons, List.length_map, List.length_range]
    have := h p c (List.mem_of_getElem? e)
    omega
  · show 1 ≤ _
    omega
def spSigns (T : List (Addr × Str)) : Sp := fun vs H Q _ => ∃ (c : Addr) (ds : List Deed) (m : Nat), vs = [.ref c, .int (m : Int)] ∧ Rows H c (encs ds) ∧ Short ds ∧
  ∀ H' p, Mod T [] H H' → H p = none → H' p = some (.lst ((signsOf ds m).map noV)) → Q (.ref p) H'
theorem sc_signs : FnScope ["deeds", "many"] ["deeds", "many"] (defScope s_signs_of) := ⟨rfl, rfl, rfl, by decide +kernel, rfl, by decide +kernel, by decide +kernel⟩
theorem ok_signs (D : PwDef K mg "signs_of" s_signs_of) (ml : mg "len" = none) (mr : mg "range" = none) (mli : mg "list" = none) : Cal P w K mg base 1 "signs_of" (spSigns T) [] := by
  refine cal_of D sc_signs (fun _ _ _ _ _ _ us hl => match us, hl with | [_, _], _ => rfl) (fun vs H Q E h => ?_) (fun f cdv A outer s H vs Q E hr h => ?_)
  · obtain ⟨c, ds, m, rfl, _⟩ := h
    rfl
  · obtain ⟨c, ds, m, rfl, hR, hsh, q⟩ := h
    obtain ⟨as, hc, ht⟩ := hR
    have hal : as.length = ds.length := by
      have := paired_len ht
      unfold encs at this
      rw [List.length_map] at this
      exact this
    refine ⟨_, pss_cons (ps_if (PW.pt (pw_and (pt_cmpR op_lt (pv 1) (pe_callB call_len_seq (by rfl) ml PySem.boot_len (pa_cons (pv 0) pa_nil)) (nomark _)) (pw_and1 (pt_cmpR op_eq (pe_ix ix_tup (pe_ix ix_list (pv 0) (pv 1) (fun _ _ => rfl)) pe_int (fun _ _ => rfl)) pe_str (nomark _)))))
        (pss_one (ps_ret (pe_op op_cat (pe_lst (pa_cons pe_non pa_nil)) (pe_listRg rfl rfl mli (prg_1 rfl mr (pe_callB call_len_str (by rfl) ml PySem.boot_len (pa_cons (pe_ix ix_tup (pe_ix ix_list (pv 0) (pv 1) (fun _ _ => rfl)) pe_int (fun _ _ => rfl)) pa_nil))))))) pss_nil)
      (pss_one (ps_ret (pe_lst (pa_cons pe_non pa_nil)))), ?_⟩
    have one : ∀ H', Mod T [] H H' → (signsOf ds m = [none]) → 0 + 1 ≤ sizeLine ∧ ∀ p, H' p = none → Q (.ref p) (upd H' p (.lst [.non])) := fun H' m' e => by
      refine ⟨by decide, fun p hp => q _ p (m'.trans (Mod.new hp)) (m'.old p hp) ?_⟩
      rw [e]
      exact upd_same
    refine ⟨_, rfl, _, rfl, c, _, rfl, .inl (SqL.of hc), _, _, rfl, rfl, _, rfl, ?_⟩
    rw [List.length_map, hal]
    refine ite2 (fun h => ?_) (fun h => ?_)
    · have hlt : m < ds.length := by
        have := of_decide_eq_true h
        omega
      obtain ⟨dd, hdd⟩ : ∃ dd, ds[m]? = some dd := ⟨ds[m], by simp [hlt]⟩
      have hrow : (encs ds)[m]? = some dd.enc := by
        unfold encs
        rw [List.getElem?_map, hdd]
        rfl
      obtain ⟨u, hu, eu⟩ := paired_get ht hrow
      have hu' : (as.map V.ref)[m]? = some (.ref u) := by
        rw [List.getElem?_map, hu]
        rfl
      have cT := SqL.of (K := K) hc
      have uT := SqT.of (K := K) eu
      cases dd with
      | put x y =>
        have hy := hsh x y (List.mem_of_getElem? hdd)
        refine ⟨_, rfl, _, rfl, c, _, _, _, rfl, rfl, cT, atI_nat hu', u, _, 0, .str sPut, rfl, rfl, uT, atI_nat (j := 0) rfl, rfl, _, rfl, ?_⟩
        refine iteT ?_
        refine ⟨(by show 1 ≤ sizeLine; decide), fun p1 hp1 => ?_⟩
        have m1 : Mod T [] H (upd H p1 (.lst [.non])) := Mod.new hp1
        have e1 : (upd H p1 (.lst [.non])) p1 = some (.lst [.non]) := upd_same
        generalize upd H p1 (.lst [.non]) = H1 at m1 e1
        refine ⟨_, rfl, _, rfl, c, _, _, _, rfl, rfl, SqL.of (m1.lst hc), atI_nat hu', u, _, 2, .str y, rfl, rfl, SqT.of (m1.tup eu), atI_nat (j := 2) rfl, y, rfl, small_sz (by omega), ?_⟩
        refine ⟨_, rfl, RgOk.of_le (by omega) (by omega) (by omega) (by omega), fun p2 hp2 => ?_⟩
        have m2 : Mod T [] H1 (upd H1 p2 (.lst (rgV 0 (y.length : Nat)))) := Mod.new hp2
        have e2 : (upd H1 p2 (.lst (rgV 0 (y.length : Nat)))) p2 = some (.lst (rgV 0 (y.length : Nat))) := upd_same
        generalize upd H1 p2 (.lst (rgV 0 (y.length : Nat))) = H2 at m2 e2
        refine ⟨p1, p2, _, _, rfl, rfl, m2.lst e1, e2, ?_, fun p hp => ?_⟩
        · rw [rgV_length]
          exact small_sz (by show 1 + _ ≤ _; omega)
        · refine q _ p ((m1.trans m2).trans (Mod.new hp)) ((m1.trans m2).old p hp) ?_
          rw [upd_same]
          unfold signsOf
          rw [hdd]
          have e : rgV 0 ((y.length : Nat) : Int) = ((List.range y.length).map some).map noV := by
            unfold rgV
            rw [List.map_map, Int.sub_zero, Int.toNat_natCast]
            refine List.map_congr_left fun i _ => ?_
            show V.int (0 + (i : Nat)) = V.int (i : Nat)
            rw [Int.zero_add]
          rw [e]
          rfl
      | drop x =>
        refine ⟨_, rfl, _, rfl, c, _, _, _, rfl, rfl, cT, atI_nat hu', u, _, 0, .str sDrop, rfl, rfl, uT, atI_nat (j := 0) rfl, rfl, _, rfl, ?_⟩
        refine ite2 (fun h => absurd h (dec_f ne_pd)) (fun _ => ?_)
        refine one H (Mod.refl H) ?_
        unfold signsOf
        rw [hdd]
      | move x y =>
        refine ⟨_, rfl, _, rfl, c, _, _, _, rfl, rfl, cT, atI_nat hu', u, _, 0, .str sMove, rfl, rfl, uT, atI_nat (j := 0) rfl, rfl, _, rfl, ?_⟩
        refine ite2 (fun h => absurd h (dec_f ne_pm)) (fun _ => ?_)
        refine one H (Mod.refl H) ?_
        unfold signsOf
        rw [hdd]
    · have hge : ¬ m < ds.length := fun z => h (decide_eq_true (by omega))
      have hdd : ds[m]? = none := by simp; omega
      refine one H (Mod.refl H) ?_
      unfold signsOf
      rw [hdd]
end Pw

set_option maxHeartbeats 4000000
namespace Pw
open PySem PySem.Spec PyProof.Rows L2 LamX
variable {P : Program} {w : World} {K : PySem.W.Frag} {mg : Str → Option Value} {base : Heap} {T : List (Addr × Str)}
abbrev FssAt (H : Hp) (as : List Addr) (l : List Fs) : Prop := Paired (fun a gs => FsAt H a gs) as l
theorem fss_upd {H : Hp} {q : Addr} {o u : HO} {as : List Addr} {l : List Fs} (h : H q = some u) (n : ∀ xs, u ≠ .dK xs) (t : FssAt H as l) : FssAt (upd H q o) as l := Paired.mapP t fun _ _ e => upd_dK h n e
theorem fss_mod {H H1 : Hp} {as : List Addr} {l : List Fs} (m : Mod T [] H H1) (t : FssAt H as l) : FssAt H1 as l := Paired.mapP t fun _ _ e => m.dK e
/-- a list of dicts -/
def AllAt (H : Hp) (p : Addr) (l : List Fs) : Prop := ∃ as : List Addr, H p = some (.lst (as.map V.ref)) ∧ FssAt H as l
def cutsTo (fs : Fs) (ds : List Deed) (i : Nat) : List Fs := (List.range i).flatMap fun m => (signsOf ds m).map fun s => cutOf fs ds m s
theorem cutsTo_succ (fs : Fs) (ds : List Deed) (i : Nat) : cutsTo fs ds (i + 1) = cutsTo fs ds i ++ (signsOf ds i).map fun s => cutOf fs ds i s := by
  unfold cutsTo
  rw [List.range_succ, List.flatMap_append]
  simp
theorem cutsTo_len {ds : List Deed} (h : Short ds) (fs : Fs) : ∀ i, (cutsTo fs ds i).length ≤ i * 1001
  | 0 => Nat.le_refl _
  | i + 1 => by
    rw [cutsTo_succ, List.length_append, List.length_map]
    have h1 := cutsTo_len h fs i
    have h2 := signs_len h i
    omega
def spAll (T : List (Addr × Str)) : Sp := fun vs H Q _ => ∃ (a c : Addr) (fs : Fs) (ds : List Deed), vs = [.ref a, .ref c] ∧ FsAt H a fs ∧ Rows H c (encs ds) ∧ (fs.map (·.1)).Nodup ∧ fs.length ≤ 62 ∧ ds.length ≤ 200 ∧ (∀ m, (doAll fs (ds.take m)).length ≤ 62) ∧ Short ds ∧
  ∀ H' p, Mod T [] H H' → H p = none → AllAt H' p (allCuts fs ds) → Q (.ref p) H'
theorem sc_all : FnScope ["files", "deeds", "found", "many", "signs"] ["files", "deeds"] (defScope s_all_cuts) := ⟨rfl, rfl, rfl, by decide +kernel, rfl, by decide +kernel, by decide +kernel⟩
theorem ok_all (D : PwDef K mg "all_cuts" s_all_cuts) (cC : Cal P w K mg base 3 "cut" (spCut T) []) (cS : Cal P w K mg base 1 "signs_of" (spSigns T) []) (ml : mg "len" = none) (mr : mg "range" = none) : Cal P w K mg base 4 "all_cuts" (spAll T) [] := by
  refine cal_of D sc_all (fun _ _ _ _ _ _ us hl => match us, hl with | [_, _], _ => rfl) (fun vs H Q E h => ?_) (fun f cdv A outer s H vs Q E hr h => ?_)
  · obtain ⟨a, c, fs, ds, rfl, _⟩ := h
    rfl
  · obtain ⟨a, c, fs, ds, rfl, hA, hR, nd, hl, hd, hl2, hsh, q⟩ := h
    have hA : H a = some (.dK (dS fs)) := hA
    refine ⟨_, pss_cons (ps_set (i := 2) sc_all.nd rfl (.inl rfl) (pe_lst pa_nil))
      (pss_cons (ps_for PassesOwn.never rfl (pi_range1 rfl mr (pa_cons (pe_op op_add (pe_callB call_len_seq (by rfl) ml PySem.boot_len (pa_cons (pv 1) pa_nil)) pe_int) pa_nil)) (pg_name (i := 3) sc_all.nd rfl (.inr rfl))
        (pss_one (ps_expr (pe_bm PySem.F.plainAttrs_list PySem.F.slot_list_extend PySem.F.type_list_extend mt_extend (pv 2) (pa_cons
          (pe_lc (own := [("signs", 4)]) (g := gName 4) (by rfl) sc_all.nd (pi_list (C8.pe_c cS hr (by decide) rfl (pa_cons (pv 1) (pa_cons (pv 3) pa_nil))))
            (blkOk_by (own := [("signs", 4)]) (N := ["files", "deeds", "found", "many", "signs"]) (sc := defScope s_all_cuts) (by decide +kernel)) (fun _ _ _ _ _ => pg_name (i := 4) sc_all.nd rfl (Or.inl rfl)) (fun _ _ _ _ _ => pts_nil)
            (fun _ _ _ _ _ => C8.pe_c cC hr (by decide) rfl (pa_cons (pv 0) (pa_cons (pv 1) (pa_cons (pv 3) (pa_cons (pv 4) pa_nil)))))) pa_nil)))))
      (pss_one (ps_ret (pv 2)))), ?_⟩
    have hR0 := hR
    obtain ⟨as0, hc, ht⟩ := hR
    have hal : as0.length = ds.length := by
      have := paired_len ht
      unfold encs at this
      rw [List.length_map] at this
      exact this
    refine ⟨Nat.zero_le _, fun fd hfd => ?_⟩
    have m0 : Mod T [] H (upd H fd (.lst [])) := Mod.new hfd
    have e0 : (upd H fd (.lst [])) fd = some (.lst []) := upd_same
    generalize upd H fd (.lst []) = H0 at m0 e0
    refine ⟨_, rfl, c, _, rfl, .inl (SqL.of (m0.lst hc)), _, _, rfl, rfl, _, rfl, ?_⟩
    rw [List.length_map, hal]
    refine ⟨by omega, by omega, ?_⟩
    have en : (((ds.length : Nat) : Int) + 1).toNat = ds.length + 1 := by omega
    rw [en]
    refine for_range (n := ds.length + 1) (fun i σ' H' => ∃ y, σ' = [some (.ref a), some (.ref c), some (.ref fd), y, none] ∧ Mod T [] H H' ∧ AllAt H' fd (cutsTo fs ds i)) ⟨none, rfl, m0, [], e0, .nil⟩ (fun i σ' H' hi ⟨y, es, m1, as, ef, tf⟩ => ?_) (fun σ' H' ⟨y, es, m1, as, ef, tf⟩ => ?_)
    · subst es
      have ez : (0 : Int) + (i : Nat) = ((i : Nat) : Int) := Int.zero_add _
      refine ⟨_, rfl, .inl ⟨rfl, _, SqL.of ef⟩, ?_⟩
      refine ⟨_, rfl, _, rfl, c, ds, i, (by rw [ez]; rfl), hR0.mod m1, hsh, fun H2 sl m2 ns es => ?_⟩
      refine ⟨sl, rfl, ⟨_, SqL.of es⟩, fun B hB => ?_⟩
      have hsl := signs_len hsh i
      refine lc_it (walk_list (xs := (signsOf ds i).map noV)) (fun j H' => Mod T [] H2 H' ∧ AllAt H' B (((signsOf ds i).take j).map fun s => cutOf fs ds i s)) ⟨Mod.new hB, [], upd_same, .nil⟩ (fun j H' _ hp => hp.1.sql (SqL.of es)) (fun j x H3 H4 hj hp hy => ?_) (fun H3 hp => ?_)
      · obtain ⟨m3, bs, e3, t3⟩ := hp
        obtain ⟨rfl, hx⟩ := hy
        obtain ⟨sg, hsg, rfl⟩ := Option.map_eq_some_iff.mp ((List.getElem?_map (f := noV) ▸ hx : _))
        have mm := (m1.trans m2).trans m3
        refine ⟨rfl, yes_ (iteT ?_)⟩
        refine ⟨_, rfl, _, rfl, _, rfl, _, rfl, a, c, fs, ds, i, sg, (by rw [ez]; rfl), mm.dK hA, hR0.mod mm, nd, hl, by omega, by omega, hl2 i, hsh, fun H5 p m5 np ep => ?_⟩
        have hbl := paired_len t3
        rw [List.length_map, List.length_take] at hbl
        refine ⟨_, m5.lst e3, by rw [List.length_map]; exact small_lt (by omega), (m3.trans m5).own hB (m5.lst e3) pl_lst, bs ++ [p], ?_, ?_⟩
        · rw [upd_same, List.map_append]
          rfl
        · rw [take_snoc hsg, List.map_append]
          exact paired_app (fss_upd (m5.lst e3) (fun _ z => by cases z) (fss_mod m5 t3)) (.cons (upd_dK (m5.lst e3) (fun _ z => by cases z) ep) .nil)
      · obtain ⟨m3, bs, e3, t3⟩ := hp
        rw [List.length_map, List.take_of_length_le (Nat.le_refl _)] at t3
        have m23 := m2.trans m3
        have ef3 := m23.lst ef
        have hbl := paired_len t3
        rw [List.length_map] at hbl
        have hfl := paired_len tf
        have hct := cutsTo_len hsh fs i
        refine ⟨fd, B, _, _, rfl, rfl, ef3, e3, ?_, ?_⟩
        · rw [List.length_map, List.length_map, hbl, hfl]
          refine Nat.le_trans (m := 201 * 1001 + 1001) ?_ (by decide)
          have : i * 1001 ≤ 201 * 1001 := Nat.mul_le_mul_right _ (by omega)
          omega
        · refine ⟨_, rfl, (m1.trans m23).own hfd ef3 pl_lst, as ++ bs, ?_, ?_⟩
          · rw [upd_same, List.map_append]
          · rw [cutsTo_succ]
            exact paired_app (fss_upd ef3 (fun _ z => by cases z) (fss_mod m23 tf)) (fss_upd ef3 (fun _ z => by cases z) t3)
    · subst es
      exact ⟨_, rfl, q H' fd m1 hfd ⟨as, ef, tf⟩⟩
end Pw

set_option maxHeartbeats 4000000
namespace Pw
open PySem PySem.Spec PyProof.Rows L2 LamX
variable {P : Program} {w : World} {K : PySem.W.Frag} {mg : Str → Option Value} {base : Heap} {T : List (Addr × Str)}
/-! ### data: lists of texts -/
def pdS (ws : List Str) : List PyData := ws.map PyData.str
theorem dp_strs {H : Hp} : ∀ (ws : List Str), DpAll K H (ws.map V.str) (pdS ws)
  | [] => .nil
  | _ :: r => .cons (.str _) (dp_strs r)
theorem strOk_gd {s : Str} (h : ∀ c ∈ s.cps.toList, c < 128) : PyData.strOk s = true := by
  unfold PyData.strOk
  rw [Array.all_eq_true_iff_forall_mem]
  intro c hc
  exact decide_eq_true (Nat.lt_trans (h c (Array.mem_toList_iff.mpr hc)) (by decide))
theorem can_strs : ∀ (ws : List Str), (∀ x ∈ ws, ∀ c ∈ x.cps.toList, c < 128) → PyData.canLayAll0 (pdS ws) = true
  | [], _ => rfl
  | x :: r, h => by
    show PyData.canLayAll0 (PyData.str x :: pdS r) = true
    rw [PyData.canLayAll0, can_strs r fun y hy => h y (List.mem_cons_of_mem _ hy)]
    rw [PyData.canLay0, strOk_gd (h x List.mem_cons_self)]
    rfl
theorem depth_strs : ∀ (ws : List Str), PyData.depthAll (pdS ws) = 0
  | [] => rfl
  | x :: r => by
    show PyData.depthAll (PyData.str x :: pdS r) = 0
    rw [PyData.depthAll, depth_strs r, PyData.depth]
    rfl
theorem shaped_strs {ws : List Str} (h : ∀ x ∈ ws, ∀ c ∈ x.cps.toList, c < 128) : SeqAt.shaped (.list (pdS ws)) = true := by
  unfold SeqAt.shaped
  rw [PyData.canLay0, can_strs ws h, PyData.depth, depth_strs]
  rfl
theorem eqv_nil (ws : List Str) : PyData.eqv (.list (pdS ws)) (.list []) = ws.isEmpty := by
  cases ws with
  | nil => rfl
  | cons x r =>
    show PyData.eqv (.list (PyData.str x :: pdS r)) (.list []) = _
    rw [PyData.eqv, PyData.eqvAll]
    rfl
theorem ne_nil {H : Hp} {a b : Addr} {ws : List Str} {Q : VK} (ha : H a = some (.lst (ws.map V.str))) (hb : H b = some (.lst [])) (h : ∀ x ∈ ws, ∀ c ∈ x.cps.toList, c < 128) (q : Q (.bl (!ws.isEmpty)) H) : rNeD K (.ref a) (.ref b) H Q := by
  refine ⟨.list (pdS ws), .list [], .lst (SqL.of ha) (dp_strs ws), .lst (SqL.of hb) .nil, shaped_strs h, by decide, ?_⟩
  rw [eqv_nil]
  exact q
theorem eq_nil {H : Hp} {a b : Addr} {ws : List Str} {Q : VK} (ha : H a = some (.lst (ws.map V.str))) (hb : H b = some (.lst [])) (h : ∀ x ∈ ws, ∀ c ∈ x.cps.toList, c < 128) (q : Q (.bl ws.isEmpty) H) : rEqD K (.ref a) (.ref b) H Q := by
  refine ⟨.list (pdS ws), .list [], .lst (SqL.of ha) (dp_strs ws), .lst (SqL.of hb) .nil, shaped_strs h, by decide, ?_⟩
  rw [eqv_nil]
  exact q

/-! ### _law_after -/
def spLAfter (T : List (Addr × Str)) : Sp := fun vs H Q _ => ∃ (a c : Addr) (fs : Fs) (ds : List Deed), vs = [.ref a, .ref c] ∧ FsAt H a fs ∧ Rows H c (encs ds) ∧ fs.length ≤ 1000 ∧ ds.length ≤ 1000 ∧
  ∀ H' p, Mod T [] H H' → H p = none → FsAt H' p (doAll fs ds) → Q (.ref p) H'
theorem sc_lafter : FnScope ["_law_files", "_law_deeds", "_law_deed", "_law_content"] ["_law_files", "_law_deeds"] (defScope s_law_after) := ⟨rfl, rfl, rfl, by decide +kernel, rfl, by decide +kernel, by decide +kernel⟩
theorem ok_lafter (D : PwDef K mg "_law_after" s_law_after) (md : mg "dict" = none) : Cal P w K mg base 1 "_law_after" (spLAfter T) [] := by
  refine cal_of D sc_lafter (fun _ _ _ _ _ _ us hl => match us, hl with | [_, _], _ => rfl) (fun vs H Q E h => ?_) (fun f cdv A outer s H vs Q E hr h => ?_)
  · obtain ⟨a, c, fs, ds, rfl, _⟩ := h
    rfl
  · obtain ⟨a, c, fs, ds, rfl, hA, hR, hl, hd, q⟩ := h
    have hA : H a = some (.dK (dS fs)) := hA
    refine ⟨_, pss_cons (ps_set (i := 0) sc_lafter.nd rfl (.inl rfl) (pe_callTy call_dictD (by rfl) md (by decide +kernel) (pa_cons (pv 0) pa_nil)))
      (pss_cons (ps_for PassesOwn.never rfl (pi_list (pv 1)) (pg_name (i := 2) sc_lafter.nd rfl (.inl rfl))
        (pss_one (ps_if (pt_cmpR op_eq (pe_ix ix_tup (pv 2) pe_int (fun _ _ => rfl)) pe_str (nomark _))
          (pss_one (ps_dput (hu_of hr) (pv 0) (pe_ix ix_tup (pv 2) pe_int (fun _ _ => rfl)) (pe_ix ix_tup (pv 2) pe_int (fun _ _ => rfl)) rfl))
          (pss_one (ps_if (pt_cmp (pc_din (hu_of hr) (pe_ix ix_tup (pv 2) pe_int (fun _ _ => rfl)) (pv 0)) (by rfl))
            (pss_cons (ps_set (i := 3) sc_lafter.nd rfl (.inl rfl) (pe_dpop1 (pv 0) (pe_ix ix_tup (pv 2) pe_int (fun _ _ => rfl)) (by constructor <;> rfl)))
            (pss_one (ps_if (pt_cmpR op_eq (pe_ix ix_tup (pv 2) pe_int (fun _ _ => rfl)) pe_str (nomark _))
              (pss_one (ps_dput (hu_of hr) (pv 0) (pe_ix ix_tup (pv 2) pe_int (fun _ _ => rfl)) (pv 3) rfl)) pss_nil)))
            pss_nil)))))
      (pss_one (ps_ret (pv 0)))), ?_⟩
    refine ⟨_, rfl, a, dS fs, rfl, .inl hA, fun d hdn => ?_⟩
    have m0 : Mod T [] H (upd H d (.dK (dS fs))) := Mod.new hdn
    have e0 : (upd H d (.dK (dS fs))) d = some (.dK (dS fs)) := upd_same
    generalize upd H d (.dK (dS fs)) = H0 at m0 e0
    obtain ⟨as, hc, ht⟩ := hR
    have hal : as.length = ds.length := by
      have := paired_len ht
      unfold encs at this
      rw [List.length_map] at this
      exact this
    refine ⟨_, rfl, c, rfl, ⟨_, SqL.of (m0.lst hc)⟩, ?_⟩
    refine for_list (xs := as.map V.ref) (fun i σ' H' => ∃ y z, σ' = [some (.ref d), some (.ref c), y, z] ∧ Mod T [] H H' ∧ H' d = some (.dK (dS (doAll fs (ds.take i))))) ⟨none, none, rfl, m0, e0⟩ (fun i σ' H' _ ⟨_, _, _, m, _⟩ => SqL.of (m.lst hc)) (fun i x σ' H' hx ⟨y, z, es, m, ed⟩ => ?_) (fun σ' H' ⟨y, z, es, m, ed⟩ => ?_)
    · subst es
      obtain ⟨u, hu, rfl⟩ := Option.map_eq_some_iff.mp ((List.getElem?_map (f := V.ref) ▸ hx : _))
      obtain ⟨row, hrow, eu⟩ := paired_get' ht hu
      unfold encs at hrow
      rw [List.getElem?_map] at hrow
      obtain ⟨dd, hdd, rfl⟩ := Option.map_eq_some_iff.mp hrow
      have hlen := len_doAll (ds.take i) fs
      rw [List.length_take] at hlen
      have uT := SqT.of (K := K) (m.tup eu)
      rw [take_snoc hdd, doAll_snoc]
      generalize doAll fs (ds.take i) = gs at *
      cases dd with
      | put p c =>
        refine ⟨_, rfl, u, _, 0, .str sPut, rfl, rfl, uT, atI_nat (j := 0) rfl, rfl, _, rfl, ?_⟩
        refine ite2 (fun _ => ?_) (fun h => absurd dec_t h)
        refine ⟨_, rfl, u, _, 2, .str c, rfl, rfl, uT, atI_nat (j := 2) rfl, ?_⟩
        refine ⟨_, rfl, _, rfl, u, _, 1, .str p, rfl, rfl, uT, atI_nat (j := 1) rfl, d, _, rfl, dput_of ed p c (small_lt (by omega)), ?_⟩
        exact ⟨_, _, rfl, m.own hdn ed pl_dK, upd_same⟩
      | drop p =>
        refine ⟨_, rfl, u, _, 0, .str sDrop, rfl, rfl, uT, atI_nat (j := 0) rfl, rfl, _, rfl, ?_⟩
        refine ite2 (fun h => absurd h (dec_f ne_pd)) (fun _ => ?_)
        refine ⟨_, rfl, u, _, 1, .str p, rfl, rfl, uT, atI_nat (j := 1) rfl, _, rfl, d, _, rfl, dget_of ed p, _, rfl, ?_⟩
        refine ite2 (fun h => ?_) (fun h => ?_)
        · rw [Option.isSome_map] at h
          obtain ⟨x, hx⟩ := Option.isSome_iff_exists.mp h
          have hv : valV (dS gs) (Sum.inr p) = some (.str x) := by
            rw [val_dk, hx]
            rfl
          have eA : (upd H' d (.dK (dropK (dS gs) (Sum.inr p)))) d = some (.dK (dS (drp gs p))) := by
            rw [upd_same]
            exact congrArg (fun z => some (HO.dK z)) (drop_dk gs p)
          have eD := upd_tup (o := .dK (dropK (dS gs) (Sum.inr p))) ed (fun _ z => by cases z) (m.tup eu)
          refine ⟨_, rfl, d, rfl, rd_isD ed, _, rfl, u, _, 1, .str p, rfl, rfl, uT, atI_nat (j := 1) rfl, dS gs, Sum.inr p, .str x, ed, rfl, hv, ?_⟩
          refine ⟨_, rfl, u, _, 0, .str sDrop, rfl, rfl, SqT.of eD, atI_nat (j := 0) rfl, rfl, _, rfl, ?_⟩
          refine ite2 (fun h => absurd h (dec_f (Ne.symm ne_dm))) (fun _ => ?_)
          exact ⟨_, _, rfl, m.own hdn ed pl_dK, eA⟩
        · rw [Option.isSome_map] at h
          refine ⟨_, _, rfl, m, ?_⟩
          have : look gs p = none := by
            cases z : look gs p with
            | none => rfl
            | some _ =>
              rw [z] at h
              exact absurd rfl h
          show H' d = some (.dK (dS (drp gs p)))
          rw [drp_out this]
          exact ed
      | move p r =>
        refine ⟨_, rfl, u, _, 0, .str sMove, rfl, rfl, uT, atI_nat (j := 0) rfl, rfl, _, rfl, ?_⟩
        refine ite2 (fun h => absurd h (dec_f ne_pm)) (fun _ => ?_)
        refine ⟨_, rfl, u, _, 1, .str p, rfl, rfl, uT, atI_nat (j := 1) rfl, _, rfl, d, _, rfl, dget_of ed p, _, rfl, ?_⟩
        refine ite2 (fun h => ?_) (fun h => ?_)
        · rw [Option.isSome_map] at h
          obtain ⟨x, hx⟩ := Option.isSome_iff_exists.mp h
          have hv : valV (dS gs) (Sum.inr p) = some (.str x) := by
            rw [val_dk, hx]
            rfl
          have eA : (upd H' d (.dK (dropK (dS gs) (Sum.inr p)))) d = some (.dK (dS (drp gs p))) := by
            rw [upd_same]
            exact congrArg (fun z => some (HO.dK z)) (drop_dk gs p)
          have eD := upd_tup (o := .dK (dropK (dS gs) (Sum.inr p))) ed (fun _ z => by cases z) (m.tup eu)
          have hl2 := len_drp_le gs p
          refine ⟨_, rfl, d, rfl, rd_isD ed, _, rfl, u, _, 1, .str p, rfl, rfl, uT, atI_nat (j := 1) rfl, dS gs, Sum.inr p, .str x, ed, rfl, hv, ?_⟩
          refine ⟨_, rfl, u, _, 0, .str sMove, rfl, rfl, SqT.of eD, atI_nat (j := 0) rfl, rfl, _, rfl, ?_⟩
          refine ite2 (fun _ => ?_) (fun h => absurd dec_t h)
          refine ⟨_, rfl, _, rfl, _, rfl, u, _, 2, .str r, rfl, rfl, SqT.of eD, atI_nat (j := 2) rfl, d, _, rfl, dput_of eA r x (small_lt (by omega)), ?_⟩
          refine ⟨_, _, rfl, (m.own hdn ed pl_dK).own hdn eA pl_dK, ?_⟩
          rw [doOne_some hx]
          exact upd_same
        · rw [Option.isSome_map] at h
          refine ⟨_, _, rfl, m, ?_⟩
          rw [doOne_none]
          · exact ed
          · cases z : look gs p with
            | none => rfl
            | some _ =>
              rw [z] at h
              exact absurd rfl h
    · subst es
      rw [List.length_map, hal, List.take_of_length_le (Nat.le_refl _)] at ed
      exact ⟨_, rfl, q H' d m hdn ed⟩
end Pw

set_option maxHeartbeats 4000000
namespace Pw
open PySem PySem.Spec PyProof.Rows L2 LamX
variable {P : Program} {w : World} {K : PySem.W.Frag} {mg : Str → Option Value} {base : Heap} {T : List (Addr × Str)}
def spNo (T : List (Addr × Str)) : Sp := fun vs H Q _ => ∃ p : Str, vs = [.str p, .str SH] ∧ Gd 26 p ∧ ∀ H', Mod T [] H H' → Q (noV (shNo p)) H'
theorem sc_no : FnScope ["_law_path", "_law_head", "_law_word", "_law_sign"] ["_law_path", "_law_head"] (defScope s_law_number_of) := ⟨rfl, rfl, rfl, by decide +kernel, rfl, by decide +kernel, by decide +kernel⟩
theorem num_txt (n : Nat) : (Str.ofString (toString ((n : Nat) : Int))).cps.toList = TL.numL n := TL.tl_num n
theorem digs_ : ∀ c : Nat, decide (c ∈ (Str.ofString "0123456789").cps.toList) = decide (48 ≤ c ∧ c ≤ 57) := by
  intro c
  have e : (Str.ofString "0123456789").cps.toList = [48, 49, 50, 51, 52, 53, 54, 55, 56, 57] := by decide +kernel
  rw [e]
  by_cases z : 48 ≤ c ∧ c ≤ 57
  · rw [decide_eq_true z]
    simp only [List.mem_cons, List.not_mem_nil, or_false, decide_eq_true_eq]
    omega
  · rw [decide_eq_false z]
    simp only [List.mem_cons, List.not_mem_nil, or_false, decide_eq_false_iff_not]
    omega
def oddS (w : List Nat) : List Str := (w.filter fun c => !decide (48 ≤ c ∧ c ≤ 57)).map fun c => ⟨#[c]⟩
theorem oddS_nil (w : List Nat) : (oddS w).isEmpty = digB w := by
  unfold oddS digB
  induction w with
  | nil => rfl
  | cons c r ih =>
    by_cases z : 48 ≤ c ∧ c ≤ 57
    · rw [List.filter_cons_of_neg (by simp [z]), ih, List.all_cons, decide_eq_true z]
      rfl
    · rw [List.filter_cons_of_pos (by simp [z]), List.all_cons, decide_eq_false z]
      rfl
theorem ok_no (D : PwDef K mg "_law_number_of" s_law_number_of) (ml : mg "len" = none) (mi : mg "int" = none) (mstr : mg "str" = none) : Cal P w K mg base 1 "_law_number_of" (spNo T) [] := by
  refine cal_of D sc_no (fun _ _ _ _ _ _ us hl => match us, hl with | [_, _], _ => rfl) (fun vs H Q E h => ?_) (fun f cdv A outer s H vs Q E hr h => ?_)
  · obtain ⟨p, rfl, _⟩ := h
    rfl
  · obtain ⟨p, rfl, gp, q⟩ := h
    have hp := gp.1
    refine ⟨_, pss_cons (ps_set (i := 2) sc_no.nd rfl (.inl rfl) (pe_slice sl_str (pv 0) (po_some (pe_callB call_len_str (by rfl) ml PySem.boot_len (pa_cons (pv 1) pa_nil))) po_none))
      (pss_cons (ps_if (PW.pt (pw_or (pt_cmpR op_ne (pe_slice sl_str (pv 0) po_none (po_some (pe_callB call_len_str (by rfl) ml PySem.boot_len (pa_cons (pv 1) pa_nil)))) (pv 1) (nomark _))
          (pw_or (pt_cmpR op_eq (pv 2) pe_str (nomark _))
          (pw_or1 (pt_cmpR (op_neD hr.units) (pe_lc (own := [("_law_sign", 3)]) (g := gName 3) (by rfl) sc_no.nd (pi_str (pv 2)) (blkOk_by (own := [("_law_sign", 3)]) (N := ["_law_path", "_law_head", "_law_word", "_law_sign"]) (sc := defScope s_law_number_of) (by decide +kernel)) (fun _ _ _ _ _ => pg_name (i := 3) sc_no.nd rfl (Or.inl rfl)) (fun _ _ _ _ _ => pts_one (pt_cmpR op_notIn_sign (pv 3) pe_str (by rfl))) (fun _ _ _ _ _ => pv 3)) (pe_lst pa_nil) (nomark _))))))
          (pss_one (ps_ret pe_non)) pss_nil)
      (pss_one (ps_ret (pe_ifExp (pt_cmpR op_eq (pe_callTy call_str_int (by rfl) mstr (by decide +kernel) (pa_cons (pe_callTy call_int_str (by rfl) mi (by decide +kernel) (pa_cons (pv 2) pa_nil)) pa_nil)) (pv 2) (nomark _))
          (pe_callTy call_int_str (by rfl) mi (by decide +kernel) (pa_cons (pv 2) pa_nil)) pe_non)))), ?_⟩
    have hS : SH.length ≤ sizeLine := by decide +kernel
    have hP : p.length ≤ sizeLine := Nat.le_trans hp (by decide)
    have eS : SH.length = 7 := by decide +kernel
    have e1 : (cutS p none (some ((SH.length : Nat) : Int)) = SH) ↔ p.cps.toList.take 7 = SH.cps.toList := by
      rw [eS]
      refine ⟨fun e => ?_, fun e => cps_inj (by rw [cutS_to, e])⟩
      rw [← cutS_to, e]
    have e2 : (cutS p (some ((SH.length : Nat) : Int)) none).cps.toList = tailW p := by
      rw [eS, cutS_from]
      rfl
    have e3 : (cutS p (some ((SH.length : Nat) : Int)) none).length = (tailW p).length := by rw [str_len, e2]
    have hT : (tailW p).length ≤ 19 := by
      unfold tailW
      rw [List.length_drop, ← str_len]
      omega
    have g128 : ∀ c ∈ tailW p, c < 128 := fun c hc => gp.2 c (List.mem_of_mem_drop hc)
    generalize hw : cutS p (some ((SH.length : Nat) : Int)) none = wd at e2 e3
    refine ⟨_, rfl, _, rfl, SH, rfl, hS, _, rfl, p, rfl, hP, ?_⟩
    rw [hw]
    refine ⟨_, rfl, _, rfl, SH, rfl, hS, _, rfl, p, rfl, hP, _, rfl, rfl, _, rfl, ?_⟩
    have none_ : ∀ H', Mod T [] H H' → (shNo p = none) → Q .non H' := fun H' m e => by
      have z := q H' m
      rw [e] at z
      exact z
    refine ite2 (fun h => ?_) (fun h => ?_)
    · have hn : shNo p = none := by
        unfold shNo
        rw [if_neg]
        rintro ⟨c, _⟩
        have c := e1.mpr c
        rw [c] at h
        simp at h
      refine iteT ?_
      exact none_ H (Mod.refl H) hn
    · have h7 : p.cps.toList.take 7 = SH.cps.toList := by
        refine e1.mp ?_
        have h : ¬ (!decide (V.str (cutS p none (some ((SH.length : Nat) : Int))) = V.str SH)) = true := h
        simp only [Bool.not_eq_true', Bool.not_eq_false, decide_eq_true_eq] at h
        exact V.str.inj (by simpa using h)
      -- word == ""
      refine ⟨_, rfl, rfl, _, rfl, ?_⟩
      refine ite2 (fun h1 => ?_) (fun h1 => ?_)
      · have hn : shNo p = none := by
          unfold shNo
          rw [if_neg]
          rintro ⟨_, c, _⟩
          refine c ?_
          rw [← e2, V.str.inj (of_decide_eq_true h1)]
          decide +kernel
        refine iteT ?_
        exact none_ H (Mod.refl H) hn
      · have hne : tailW p ≠ [] := fun z => h1 (decide_eq_true (congrArg V.str (cps_inj (by rw [e2, z]; decide +kernel))))
        -- the signs that are no digits
        refine ⟨_, rfl, wd, rfl, fun B hB => ?_⟩
        refine lc_it walk_str (fun i H' => Mod T [] H H' ∧ H' B = some (.lst ((oddS (wd.cps.toList.take i)).map V.str))) ⟨Mod.new hB, upd_same⟩ (fun _ _ _ _ => trivial) (fun i x H1 H2 hi hp hy => ?_) (fun H1 hp => ?_)
        · obtain ⟨m, e⟩ := hp
          obtain ⟨rfl, c, hc, rfl⟩ := hy
          have hc : wd.cps.toList[i]? = some c := by rw [← hc]; exact Array.getElem?_toList
          have et := take_snoc hc
          refine ⟨rfl, ?_⟩
          refine ⟨_, rfl, c, _, rfl, rfl, _, rfl, ?_⟩
          rw [digs_, et]
          refine ite2 (fun hn => ?_) (fun hn => ?_)
          · refine ⟨_, rfl, _, e, ?_, m.own hB e pl_lst, ?_⟩
            · have h2 := List.length_filter_le (fun c => !decide (48 ≤ c ∧ c ≤ 57)) (wd.cps.toList.take i)
              rw [List.length_map]
              unfold oddS
              rw [List.length_map]
              rw [List.length_take, ← str_len, e3] at h2
              exact small_lt (by omega)
            · rw [upd_same]
              have ef : List.filter (fun c => !decide (48 ≤ c ∧ c ≤ 57)) [c] = [c] := List.filter_cons_of_pos hn
              unfold oddS
              rw [List.filter_append, ef, List.map_append, List.map_append]
              rfl
          · refine ⟨m, ?_⟩
            have ef : List.filter (fun c => !decide (48 ≤ c ∧ c ≤ 57)) [c] = [] := List.filter_cons_of_neg hn
            unfold oddS at e ⊢
            rw [List.filter_append, ef, List.append_nil]
            exact e
        · obtain ⟨m, e⟩ := hp
          have eL : wd.cps.toList.take wd.cps.size = wd.cps.toList := List.take_of_length_le (by rw [Array.length_toList]; exact Nat.le_refl _)
          rw [eL, e2] at e
          refine ⟨Nat.zero_le _, fun B2 hB2 => ?_⟩
          have m2 : Mod T [] H1 (upd H1 B2 (.lst [])) := Mod.new hB2
          have eB2 : (upd H1 B2 (.lst [])) B2 = some (.lst []) := upd_same
          generalize upd H1 B2 (.lst []) = H2 at m2 eB2
          have mm := m.trans m2
          refine ne_nil (m2.lst e) eB2 (fun x hx c hc => ?_) ⟨_, rfl, ?_⟩
          · unfold oddS at hx
            obtain ⟨c', hc', rfl⟩ := List.mem_map.mp hx
            have : c = c' := by simpa using hc
            rw [this]
            exact g128 c' (List.mem_filter.mp hc').1
          rw [oddS_nil]
          by_cases h3 : digB (tailW p) = true
          · rw [h3]
            refine iteF ?_
            have it : PySem.intText? wd = some ((NumText.digitsVal (tailW p) : Nat) : Int) := by
              have := intText_digits (x := wd) (by rw [e2]; exact digB_all h3) (by rw [e2]; exact hne) (by omega)
              rw [e2] at this
              exact this
            have hbig : NumText.digitsVal (tailW p) < 10 ^ 19 := Nat.lt_of_lt_of_le (dv_lt _ _ rfl h3) (Nat.pow_le_pow_right (by decide) hT)
            refine ⟨_, rfl, wd, _, rfl, it, by omega, ?_⟩
            refine ⟨_, rfl, ?_, ?_⟩
            · have hd2 : (10 ^ 19 : Nat) ≤ 2 ^ 64 := by decide
              exact log2_small (Nat.lt_of_lt_of_le hbig hd2)
            refine ⟨_, rfl, rfl, _, rfl, ?_⟩
            have eqv : (Str.ofString (toString ((NumText.digitsVal (tailW p) : Nat) : Int)) = wd) ↔ TL.numL (NumText.digitsVal (tailW p)) = tailW p := by
              refine ⟨fun z => ?_, fun z => cps_inj ?_⟩
              · rw [← num_txt, z, e2]
              · rw [num_txt, z, e2]
            refine ite2 (fun h5 => ?_) (fun h5 => ?_)
            · have h5 := eqv.mp (V.str.inj (of_decide_eq_true h5))
              have hs : shNo p = some (NumText.digitsVal (tailW p)) := by
                unfold shNo
                rw [if_pos ⟨h7, hne, hT, h3, h5⟩]
              refine ⟨_, rfl, wd, _, rfl, it, by omega, ?_⟩
              have := q H2 mm
              rw [hs] at this
              exact this
            · have hn : shNo p = none := by
                unfold shNo
                rw [if_neg]
                rintro ⟨_, _, _, _, c⟩
                exact h5 (decide_eq_true (congrArg V.str (eqv.mpr c)))
              exact none_ H2 mm hn
          · have h3 : digB (tailW p) = false := by simpa using h3
            rw [h3]
            refine iteT ?_
            have hn : shNo p = none := by
              unfold shNo
              rw [if_neg]
              rintro ⟨_, _, _, c, _⟩
              rw [h3] at c
              cases c
            exact none_ H2 mm hn
end Pw

set_option maxHeartbeats 4000000
namespace Pw
open PySem PySem.Spec PyProof.Rows L2 LamX
variable {P : Program} {w : World} {K : PySem.W.Frag} {mg : Str → Option Value} {base : Heap} {T : List (Addr × Str)}
def nV (n : Nat) : V := .int ((n : Nat) : Int)
theorem ints_sorted {ns : List Nat} {zs : List Int} (hp : zs.Perm (ns.map fun n => ((n : Nat) : Int))) (hs : zs.Pairwise (· ≤ ·)) : zs = (sortN ns).map fun n => ((n : Nat) : Int) := by
  have e : zs = (zs.map Int.toNat).map fun n => ((n : Nat) : Int) := by
    rw [List.map_map]
    refine (List.map_id' zs).symm.trans (List.map_congr_left fun z hz => ?_)
    obtain ⟨n, _, rfl⟩ := List.mem_map.mp (hp.mem_iff.mp hz)
    rfl
  rw [e]
  refine congrArg _ (sortN_of ?_ ?_)
  · have := hp.map Int.toNat
    rw [List.map_map] at this
    have e2 : ns.map (Int.toNat ∘ fun n => ((n : Nat) : Int)) = ns := by
      refine (List.map_congr_left fun n _ => ?_).trans (List.map_id' ns)
      rfl
    rw [e2] at this
    exact this
  · rw [List.pairwise_map]
    exact hs.imp fun h => by omega
theorem selN_take {fs : Fs} {i : Nat} {kv : Str × Str} (h : fs[i]? = some kv) : selN (fs.take (i + 1)) = selN (fs.take i) ++ (match shNo kv.1 with | some n => [n] | none => []) := by rw [take_snoc h, selN_snoc] <;> rfl
theorem selN_len (l : Fs) : (selN l).length ≤ l.length := List.length_filterMap_le _ _
def spNums (T : List (Addr × Str)) : Sp := fun vs H Q _ => ∃ (a : Addr) (fs : Fs), vs = [.ref a, .str SH] ∧ FsAt H a fs ∧ FOk 1000 fs ∧ ∀ H' p, Mod T [] H H' → H p = none → H' p = some (.lst ((nums fs).map nV)) → Q (.ref p) H'
theorem sc_nums : FnScope ["_law_files", "_law_head", "_law_found", "_law_path", "_law_number"] ["_law_files", "_law_head"] (defScope s_law_numbers) := ⟨rfl, rfl, rfl, by decide +kernel, rfl, by decide +kernel, by decide +kernel⟩
theorem ok_nums (D : PwDef K mg "_law_numbers" s_law_numbers) (cN : Cal P w K mg base 1 "_law_number_of" (spNo T) []) (ms : mg "sorted" = none) : Cal P w K mg base 2 "_law_numbers" (spNums T) [] := by
  refine cal_of D sc_nums (fun _ _ _ _ _ _ us hl => match us, hl with | [_, _], _ => rfl) (fun vs H Q E h => ?_) (fun f cdv A outer s H vs Q E hr h => ?_)
  · obtain ⟨a, fs, rfl, _⟩ := h
    rfl
  · obtain ⟨a, fs, rfl, hA, hok, q⟩ := h
    have hA : H a = some (.dK (dS fs)) := hA
    refine ⟨_, pss_cons (ps_lock (ps_setLc (i := 2) (own := [("_law_path", 3)]) (g := gName 3) (by rfl) sc_nums.nd rfl rfl (sw_true rfl rfl rfl (by decide +kernel)) (pi_keys (pv 0))
        (blkOk_by (own := [("_law_path", 3)]) (N := ["_law_files", "_law_head", "_law_found", "_law_path", "_law_number"]) (sc := defScope s_law_numbers) (by decide +kernel)) (fun _ _ _ _ _ => pg_name (i := 3) sc_nums.nd rfl (Or.inl rfl))
        (fun _ _ _ _ _ => pts_nil) (fun _ _ _ _ _ => C8.pe_c cN hr (by decide) rfl (pa_cons (pv 3) (pa_cons (pv 1) pa_nil)))))
      (pss_one (ps_ret (pe_callB cr_sortedI (by rfl) ms (by decide +kernel) (pa_cons
        (pe_lc (own := [("_law_number", 4)]) (g := gName 4) (by rfl) sc_nums.nd (pi_list (pv 2)) (blkOk_by (own := [("_law_number", 4)]) (N := ["_law_files", "_law_head", "_law_found", "_law_path", "_law_number"]) (sc := defScope s_law_numbers) (by decide +kernel)) (fun _ _ _ _ _ => pg_name (i := 4) sc_nums.nd rfl (Or.inl rfl))
          (fun _ _ _ _ _ => pts_one (pt_cmp (pc_notN (pv 4)) (by rfl))) (fun _ _ _ _ _ => pv 4)) pa_nil)))), ?_⟩
    refine ⟨a, _, hA, trivial, fun od => ?_⟩
    have hlen := hok.len
    refine ⟨_, rfl, a, od, rfl, .inl ⟨dS fs, upd_same, fun B hB => ?_⟩⟩
    have nBa : B ≠ a := fun z => by
      rw [z, upd_same] at hB
      cases hB
    refine lc_it walk_keys (fun i H' => Mod T [] (upd H a (.frz od (.dK (dS fs)))) H' ∧ H' B = some (.lst ((fs.take i).map fun kv => noV (shNo kv.1)))) ⟨Mod.new hB, upd_same⟩ (fun i H' _ hp => hp.1.at0 noT_frz upd_same) (fun i x H1 H2 hi hp hy => ?_) (fun H1 hp => ?_)
    · obtain ⟨m, e⟩ := hp
      obtain ⟨rfl, k, v, hk, rfl⟩ := hy
      rw [get_dk] at hk
      obtain ⟨kv, hkv, hkk⟩ := Option.map_eq_some_iff.mp hk
      cases hkk
      have g := hok.gd kv (List.mem_of_getElem? hkv)
      refine ⟨rfl, yes_ (iteT ?_)⟩
      refine ⟨_, rfl, _, rfl, kv.1, rfl, g.1, fun H3 m3 => ?_⟩
      have e3 := m3.lst e
      refine ⟨_, e3, ?_, (m.trans m3).own hB e3 pl_lst, ?_⟩
      · rw [List.length_map, List.length_take]
        exact small_lt (by omega)
      · rw [upd_same, take_snoc hkv, List.map_append]
        rfl
    · obtain ⟨m, e⟩ := hp
      rw [len_dk, List.take_of_length_le (Nat.le_refl _)] at e
      have ea : H1 a = some (.frz od (.dK (dS fs))) := m.at0 noT_frz upd_same
      refine ⟨ea, ?_⟩
      have mU : Mod T [] H (upd H1 a (.dK (dS fs))) := Mod.unlock hA pl_dK m ea
      have eB : (upd H1 a (.dK (dS fs))) B = some (.lst (fs.map fun kv => noV (shNo kv.1))) := by
        rw [upd_ne nBa]
        exact e
      generalize upd H1 a (.dK (dS fs)) = H2 at mU eB
      refine ⟨_, rfl, B, rfl, ⟨_, SqL.of eB⟩, fun B2 hB2 => ?_⟩
      refine lc_it (walk_list (xs := fs.map fun kv => noV (shNo kv.1))) (fun i H' => Mod T [] H2 H' ∧ H' B2 = some (.lst ((selN (fs.take i)).map nV))) ⟨Mod.new hB2, upd_same⟩ (fun i H' _ hp => hp.1.sql (SqL.of eB)) (fun i x H3 H4 hi hp hy => ?_) (fun H3 hp => ?_)
      · obtain ⟨m, e⟩ := hp
        obtain ⟨rfl, hx⟩ := hy
        rw [List.getElem?_map] at hx
        obtain ⟨kv, hkv, rfl⟩ := Option.map_eq_some_iff.mp hx
        refine ⟨rfl, ?_⟩
        refine ⟨_, rfl, _, rfl, ?_⟩
        rw [noV_non, selN_take hkv]
        refine ite2 (fun h => ?_) (fun h => ?_)
        · obtain ⟨n, hn⟩ := Option.isSome_iff_exists.mp h
          refine ⟨_, rfl, _, e, ?_, m.own hB2 e pl_lst, ?_⟩
          · have h1 := selN_len (fs.take i)
            rw [List.length_take] at h1
            rw [List.length_map]
            exact small_lt (by omega)
          · rw [upd_same, hn, List.map_append]
            rfl
        · have hn : shNo kv.1 = none := by
            cases z : shNo kv.1 with
            | none => rfl
            | some n => rw [z] at h; exact absurd rfl h
          rw [hn]
          refine ⟨m, ?_⟩
          rw [List.append_nil]
          exact e
      · obtain ⟨m, e⟩ := hp
        rw [List.length_map, List.take_of_length_le (Nat.le_refl _)] at e
        refine ⟨B2, (selN fs).map fun n => ((n : Nat) : Int), rfl, SqL.of (by rw [e, List.map_map]; rfl), fun zs p h1 h2 np => ?_⟩
        have ez := ints_sorted h1 h2
        have mF := mU.trans m
        refine q _ p (mF.new' np) (mF.old p np) ?_
        rw [upd_same, ez, List.map_map]
        rfl
end Pw

set_option maxHeartbeats 4000000
/-! sorted(d.items()) of a dict of texts by texts -/
namespace Pw
open PySem PySem.Spec PyProof.Rows L2 LamX Srt
def rItemsK : V → List V → Hp → VK → Prop := fun x xs H Q => ∃ (a : Addr) (kvs : List (Key × V)), x = .ref a ∧ xs = [] ∧ H a = some (.dK kvs) ∧ ∀ p, H p = none → Q (.ref p) (upd H p (DX.itemsO p a))
theorem mt_itemsK {X : Cx} : MtR X "dict.items" rItemsK := by
  intro pins s σ H x xs v us Q I rx rxs h
  obtain ⟨a, kvs, rfl, rfl, ha, q⟩ := h
  cases rx
  cases rxs
  obtain ⟨z, hd, vs, kv, o, es, ep, ho, hx, hdat, _⟩ := I.hok a _ ha
  refine DT.callItems (es := es) (ep := ep) hd ⟨o, ho, hx, hdat⟩ ?_
  have hf : H s.heap.objs.size = none := I.hok.fresh (Nat.le_refl _)
  exact ⟨.ref s.heap.objs.size, upd H s.heap.objs.size (DX.itemsO s.heap.objs.size a), I.laid (t' := s.toks) (fun b u e => Heap.get?_push_of_some _ e) (Nat.le_refl _) (DX.itemsO_ok (Heap.get?_push_size _ rfl)), rfl, q _ hf⟩
def PairS (h : Heap) (v : Value) (y m : Str) : Prop := ∃ (a : Addr) (o : Obj) (t u : Tok) (n : Nat), v = .ref a ∧ h.get? a = some o ∧ o.cls = .type "tuple" ∧ o.data = .seq #[.str y t, .str m u] n
def keyS (h : Heap) (v : Value) : Str := DT.txOf (DT.seqAt0 h (DT.refOf (some v)))
theorem PairS.key {h : Heap} {v : Value} {y m : Str} (x : PairS h v y m) : keyS h v = y := by
  obtain ⟨a, o, t, u, n, rfl, ho, hc, hd⟩ := x
  show DT.txOf (DT.seqAt0 h a) = y
  rw [DT.seqAt0_of ⟨o, ho, hc, n, hd⟩]
  rfl
theorem PairS.keeps {h h' : Heap} {v : Value} {y m : Str} (x : PairS h v y m) (k : ∀ b o, h.get? b = some o → o.cls = .type "tuple" → h'.get? b = some o) : PairS h' v y m := by
  obtain ⟨a, o, t, u, n, e, ho, hc, hd⟩ := x
  exact ⟨a, o, t, u, n, e, k _ _ ho hc, hc, hd⟩
def ltS (h : Heap) (v u : Value) : Bool := ltCps (keyS h v).cps.toList (keyS h u).cps.toList
theorem leS_not {a b : Str} (h : ltCps a.cps.toList b.cps.toList = false) : leS b a = true := by
  unfold leS
  rw [h]
  rfl
theorem not_leS {a b : Str} (h : leS b a = true) : ltCps a.cps.toList b.cps.toList = false := by
  unfold leS at h
  simpa using h
theorem swo_S (h : Heap) : SrtO.Swo (ltS h) := by
  refine ⟨fun x y h1 => lt_asymm h1, fun x y z h1 h2 => ?_⟩
  exact not_leS (leS_trans _ _ _ (leS_not h1) (leS_not h2))
section
variable {prog : Program} {w : World} {A : Around} {E : Value → Shared → Prop} {s : Shared}
theorem pairS_cmp {vs : List Value} {h0 : Heap} {M : Str → Str} (hp : ∀ v ∈ vs, PairS s.heap v (keyS h0 v) (M (keyS h0 v))) : SrtO.Cmp prog w A s (tuples' true) (fun p => p.1 ∈ vs) (SrtO.lt2 (ltS h0)) := by
  intro p q hm hm'
  have h1 := hp _ hm
  have h2 := hp _ hm'
  show wpAny (model prog w) A (keyLt' (tuples' true) p.1 q.1) (fun r s' => s' = s ∧ r = ltS h0 p.1 q.1) (fun _ _ => False) s
  unfold ltS
  generalize keyS h0 p.1 = x at h1 ⊢
  generalize keyS h0 q.1 = y at h2 ⊢
  obtain ⟨a, o, t, u, n, e, ho, hc, hd⟩ := h1
  obtain ⟨a', o', t', u', n', e', ho', hc', hd'⟩ := h2
  rw [e, e']
  refine PySem.W.kat_lt ho hd ho' hd' ?_
  show PySem.W.KatLex prog w A true (decide (2 < 2)) _ [(.str x t, .str y t'), (.str (M x) u, .str (M y) u')] 0 s
  refine PySem.W.kat_cons (SeqAt.EqAt.str_str x t y t' prog w _ _ ?_)
  refine PySem.W.kat_go (fun e1 => ?_) (fun e1 => ?_)
  · have ex : x = y := by simpa using e1
    refine PySem.W.kat_yes (PySem.W.kat_cons (SeqAt.EqAt.str_str (M x) u (M y) u' prog w _ _ ?_))
    refine PySem.W.kat_go (fun e2 => ?_) (fun e2 => ?_)
    · refine PySem.W.kat_yes (PySem.W.kat_nil ⟨rfl, ?_⟩)
      rw [ex, lt_irrefl]
      exact decide_eq_false (Nat.lt_irrefl _)
    · rw [ex] at e2
      simp at e2
  · refine PySem.W.kat_no (oneLt_str ⟨rfl, ?_⟩)
    exact lt_meets x y
theorem firstsS {h : Heap} : ∀ {vs : List Value}, (∀ v ∈ vs, ∃ y m, PairS h v y m) → ∃ fs : List Value, PySem.W.KatTups h vs fs ∧ fs.length = vs.length ∧ ∀ f ∈ fs, ∃ x t, f = Value.str x t
  | [], _ => ⟨[], PySem.W.KatTups.nil, rfl, fun _ hm => by simp at hm⟩
  | v :: vs, hp => by
    obtain ⟨fs, h1, h2, h3⟩ := firstsS (vs := vs) fun v' hm => hp v' (List.mem_cons_of_mem _ hm)
    obtain ⟨x, y, a, o, t, u, n, e, ho, hc, hd⟩ := hp v (List.mem_cons_self ..)
    subst e
    refine ⟨.str x t :: fs, PySem.W.KatTups.cons ho hc hd rfl h1, by rw [List.length_cons, List.length_cons, h2], fun f hm => ?_⟩
    rcases List.mem_cons.mp hm with rfl | hm
    · exact ⟨x, t, rfl⟩
    · exact h3 f hm
theorem pairS_sortable {a : Addr} {vs : List Value} {h0 : Heap} {M : Str → Str} (h2 : 0 < vs.length) (hp : ∀ v ∈ vs, PairS s.heap v (keyS h0 v) (M (keyS h0 v))) (ha : ∀ o, s.heap.get? a = some o → o.cls ≠ .type "tuple") : SrtO.SortableO prog w A s a vs (ltS h0) := by
  intro h' keep
  have hp' : ∀ v ∈ vs, PairS h' v (keyS h0 v) (M (keyS h0 v)) := fun v hm => (hp v hm).keeps fun b o e c => keep b o (fun z => by subst z; exact ha o e c) e
  obtain ⟨fs, h1, h3, h4⟩ := firstsS fun v hm => ⟨_, _, hp' v hm⟩
  refine ⟨tuples' true, fun Q E hq => ?_, pairS_cmp hp'⟩
  refine PySem.W.kat_kind (T := .type "str") h1 (by omega) (fun f hm => ?_) (by rfl) ?_
  · obtain ⟨x, t, rfl⟩ := h4 f hm
    exact PySem.W.Looks.now
  · have e : (Value.type "str" != Value.type "tuple") = true := by first | decide +kernel | rfl | decide
    rw [e]
    exact hq
end
def rSortItS : List V → Hp → VK → Prop := fun vs H Q => ∃ (p a : Addr) (fs : Fs), vs = [.ref p] ∧ H p = some (DX.itemsO p a) ∧ H a = some (.dK (dS fs)) ∧ (fs.map (·.1)).Nodup ∧
  ∀ (H' : Hp) (l : Addr) (ts : List Addr), (∀ b o, H b = some o → H' b = some o) → H l = none → H' l = some (.lst (ts.map V.ref)) → Paired (fun t (kv : Str × Str) => H' t = some (.tup [.str kv.1, .str kv.2])) ts (inOrd fs) → Q (.ref l) H'
theorem inOrd_of {fs gs : Fs} (nd : (fs.map (·.1)).Nodup) (hp : gs.Perm fs) (hs : (gs.map (·.1)).Pairwise (fun a b => leS a b = true)) : gs = inOrd fs := by
  have e1 : gs.map (·.1) = sortS (fs.map (·.1)) := sortS_of (hp.map _) hs
  unfold inOrd
  rw [← e1, List.map_map]
  refine (List.map_id' gs).symm.trans (List.map_congr_left fun q hq => ?_)
  have z := mem_look nd (hp.mem_iff.mp hq)
  show q = (q.1, cAt fs q.1)
  unfold cAt
  rw [z]
  rfl
theorem cr_sortedItemsS {X : Cx} (hc : X.calm = true) : CallR X (.builtin "sorted") rSortItS := by
  intro pins s σ H xs us Q I r h
  obtain ⟨p, a, fs, rfl, hp, ha, hnd, q⟩ := h
  obtain rfl := Vals.ref1 r
  have view : s.heap.IsItemsView p a := (show ObjOk X.prog X.w H s.heap p (DX.itemsO p a) from I.hok p _ hp).1
  obtain ⟨hz, hd, vs, kv, o, es, ep, ho, hx, hdat, hks, hpr, hn⟩ := I.hok a _ ha
  have hh : X.A.handled = none := I.ok.hd hc
  have l1 : (dS fs).length = vs.length := Paired.length kv
  rw [dS_len] at l1 hz
  have l2 := hpr.length
  rw [Array.length_toList] at l2
  refine DT.sortedI (es := es) (ep := ep) hh view ⟨o, ho, hx, hdat⟩ (by omega) fun h' tk as hk hlt hl hG => ?_
  have lak : as.length = fs.length := by omega
  have nd : as.Nodup := List.Pairwise.imp (fun h => Nat.ne_of_lt h) hG.rise
  have pr : ∀ (j : Nat) (b : Addr), as[j]? = some b → ∃ (e : Str × Str) (t u : Tok), fs[j]? = some e ∧ h'.get? b = some { cls := .type "tuple", data := .seq #[Value.str e.1 t, Value.str e.2 u] } := by
    intro j b hj
    obtain ⟨en, he, hg⟩ := hG.pairs j b hj
    have he : es.toList[j]? = some en := by rw [Array.getElem?_toList]; exact he
    have hjl : j < fs.length := by
      rw [← lak]
      exact (List.getElem?_eq_some_iff.mp hj).1
    have hf : fs[j]? = some fs[j] := List.getElem?_eq_getElem hjl
    generalize fs[j] = e at hf
    have hdj : (dS fs)[j]? = some (Sum.inr e.1, .str e.2) := by
      rw [get_dk, hf]
      rfl
    obtain ⟨⟨k0, v0⟩, hvj, e1, e2⟩ := paired_get' kv hdj
    obtain ⟨e3, e4⟩ := hpr.get? he hvj
    have e1 : Sum.inr e.1 = k0 := e1
    subst e1
    obtain ⟨t, ht⟩ : RelV (.str e.1) en.key := relV_key (k := Sum.inr e.1) e3
    obtain ⟨u, hu⟩ : RelV (.str e.2) v0 := e2
    refine ⟨e, t, u, hf, ?_⟩
    rw [hg, ht, e4, hu]
  have hob : (h'.push { cls := .type "list", data := .seq (as.map Value.ref).toArray }).get? h'.objs.size = some (seqObj "list" (as.map Value.ref).toArray 0) := Heap.get?_push_size _ rfl
  have kb : ∀ b o, s.heap.get? b = some o → (h'.push { cls := .type "list", data := .seq (as.map Value.ref).toArray }).get? b = some o := fun b o e => Heap.get?_push_of_some _ (hk b o e)
  have ne0 : ∀ b o, h'.get? b = some o → b ≠ h'.objs.size := fun b o e => Nat.ne_of_lt (Heap.lt_size e)
  generalize hh2 : h'.push { cls := .type "list", data := .seq (as.map Value.ref).toArray } = h2 at hob kb ⊢
  have ka : ∀ b o, h'.get? b = some o → h2.get? b = some o := fun b o e => by rw [← hh2]; exact Heap.get?_push_of_some _ e
  have pin : ∀ (j : Nat) (b : Addr), as[j]? = some b → ∃ e : Str × Str, fs[j]? = some e ∧ PairS h2 (.ref b) e.1 e.2 := by
    intro j b hj
    obtain ⟨e, t, u, he, hg⟩ := pr j b hj
    exact ⟨e, he, b, _, t, u, 0, rfl, ka _ _ hg, rfl, rfl⟩
  have at_ : ∀ v ∈ as.map Value.ref, ∃ (j : Nat) (b : Addr) (e : Str × Str), v = .ref b ∧ as[j]? = some b ∧ fs[j]? = some e ∧ PairS h2 v e.1 e.2 := by
    intro v hv'
    obtain ⟨b, hb, rfl⟩ := List.mem_map.mp hv'
    obtain ⟨j, hj⟩ := List.mem_iff_getElem?.mp hb
    obtain ⟨e, he, hp'⟩ := pin j b hj
    exact ⟨j, b, e, rfl, hj, he, hp'⟩
  have allP : ∀ v ∈ as.map Value.ref, PairS h2 v (keyS h2 v) (cAt fs (keyS h2 v)) := by
    intro v hv'
    obtain ⟨j, b, e, _, _, he, hp'⟩ := at_ v hv'
    rw [hp'.key]
    have z := mem_look hnd (List.mem_of_getElem? he)
    unfold cAt
    rw [z]
    exact hp'
  refine wpAny_call_entry PyProof.Rows.slot_list_sort ⟨_, hob, rfl⟩ PyProof.Rows.entry_list_sort
    (SrtO.list_sort_ord (s := { s with heap := h2, toks := tk }) (swo_S h2) hob (by rw [List.length_map]; omega) (fun h3 => pairS_sortable (s := { s with heap := h2, toks := tk }) (by omega) allP fun o e => ?_) fun out o1 o2 => ⟨.none, rfl, ?_⟩) (PyProof.Rows.args_list_sort _)
  · have e' : some o = some (seqObj "list" (as.map Value.ref).toArray 0) := e.symm.trans hob
    cases e'
    intro c
    exact absurd (Value.type.inj c) (by decide)
  · show EP X pins σ Q (.ref h'.objs.size) { s with heap := sortedHeap h2 h'.objs.size (as.map Value.ref) out.toArray, toks := tk }
    have zfst : (as.zip fs).map (fun z => Value.ref z.1) = as.map Value.ref := by
      have : (as.zip fs).map (fun z => z.1) = as := List.map_fst_zip (by omega)
      rw [← this, List.map_map]
      have this2 : (as.zip fs).map (fun z => z.1) = as := this
      rw [this]
      rfl
    obtain ⟨zs, pz, ez⟩ := perm_lift (fun z : Addr × Str × Str => Value.ref z.1) o2.perm (as.zip fs) zfst
    have idx : ∀ z ∈ zs, ∃ j : Nat, as[j]? = some z.1 ∧ fs[j]? = some z.2 := by
      intro z' hz'
      obtain ⟨j, hj⟩ := List.mem_iff_getElem?.mp (pz.mem_iff.mp hz')
      exact ⟨j, List.getElem?_zip_eq_some.mp hj⟩
    have kz : ∀ z ∈ zs, keyS h2 (.ref z.1) = z.2.1 := by
      intro z' hz'
      obtain ⟨j, j1, j2⟩ := idx z' hz'
      obtain ⟨e, he, hp'⟩ := pin j z'.1 j1
      rw [hp'.key, Option.some.inj (he.symm.trans j2)]
    have hperm : (zs.map (·.2)).Perm fs := by
      have e := pz.map (·.2)
      have m2 : (as.zip fs).map (·.2) = fs := List.map_snd_zip (by omega)
      rw [m2] at e
      exact e
    have hsort : ((zs.map (·.2)).map (·.1)).Pairwise (fun a b => leS a b = true) := by
      have o1 : out.Pairwise fun x y => ltS h2 y x = false := o1
      rw [← ez, List.pairwise_map] at o1
      rw [List.map_map, List.pairwise_map]
      refine List.Pairwise.imp_of_mem (fun {x y} hx hy h => ?_) o1
      have h : ltCps (keyS h2 (.ref y.1)).cps.toList (keyS h2 (.ref x.1)).cps.toList = false := h
      rw [kz x hx, kz y hy] at h
      exact leS_not h
    have hin := inOrd_of hnd hperm hsort
    have kF : ∀ b o, b ≠ h'.objs.size → h2.get? b = some o → (sortedHeap h2 h'.objs.size (as.map Value.ref) out.toArray).get? b = some o := fun b o hb e => (PyProof.Rows.sortedHeap_old hb (Heap.lt_size e)).trans e
    have kS : ∀ b o, s.heap.get? b = some o → (sortedHeap h2 h'.objs.size (as.map Value.ref) out.toArray).get? b = some o := fun b o e => kF b o (ne0 _ _ (hk b o e)) (kb b o e)
    obtain ⟨eF, heF⟩ := PyProof.Rows.sortedHeap_at (vs := as.map Value.ref) (out := out.toArray) hob
    have I1 : Inv X pins σ H { s with heap := sortedHeap h2 h'.objs.size (as.map Value.ref) out.toArray, toks := tk } := I.kept (t' := tk) kS
    have hn0 : H h'.objs.size = none := I.hok.fresh (Nat.le_of_lt hlt)
    have hzl : zs.length = fs.length := by
      have := hperm.length_eq
      rw [List.length_map] at this
      exact this
    have hlen : ((zs.map (·.1)).map V.ref).length ≤ sizeLine := by
      rw [List.length_map, List.length_map]
      omega
    have rv : Vals ((zs.map (·.1)).map V.ref) out := by
      rw [← ez, List.map_map]
      exact vals_maps (fun z : Addr × Str × Str => V.ref z.1) (fun z => Value.ref z.1) zs fun _ _ => rfl
    have I2 : Inv X pins σ (upd H h'.objs.size (.lst ((zs.map (·.1)).map V.ref))) { s with heap := sortedHeap h2 h'.objs.size (as.map Value.ref) out.toArray, toks := tk } :=
      I1.take (h' := sortedHeap h2 h'.objs.size (as.map Value.ref) out.toArray) (t' := tk) (fun b ob _ e => e) (I.fpOk (Nat.le_of_lt hlt) hn0) ⟨hlen, out, eF, rv, heF⟩
    obtain ⟨H2, I3, g, qt⟩ := DX.takeT (P := fun b vs => ∃ (j : Nat) (e : Str × Str), as[j]? = some b ∧ fs[j]? = some e ∧ vs = [.str e.1, .str e.2]) I as _ I2 nd fun b hb => by
      obtain ⟨j, hj⟩ := List.mem_iff_getElem?.mp hb
      obtain ⟨e, t, u, he, hg⟩ := pr j b hj
      have hbl : s.heap.objs.size ≤ b := Nat.le_of_lt (hG.above b hb)
      refine ⟨hbl, ?_, [.str e.1, .str e.2], ⟨j, e, hj, he, rfl⟩, fun H3 => ⟨(by rw [sizeLine_eq]; show 2 ≤ 16777216; omega), [Value.str e.1 t, Value.str e.2 u], .cons ⟨t, rfl⟩ (.cons ⟨u, rfl⟩ .nil), ⟨_, kF _ _ (ne0 _ _ hg) (ka _ _ hg), rfl, 0, rfl⟩⟩⟩
      rw [upd_ne (ne0 _ _ hg)]
      exact I.hok.fresh hbl
    have gr : ∀ b o, H b = some o → H2 b = some o := fun b o e => g b o (by rw [upd_ne (ne_of_none e hn0)]; exact e)
    refine ⟨.ref h'.objs.size, H2, I3, rfl, q H2 h'.objs.size (zs.map (·.1)) gr hn0 (g _ _ upd_same) ?_⟩
    rw [← hin]
    have tupz : ∀ z ∈ zs, H2 z.1 = some (.tup [.str z.2.1, .str z.2.2]) := by
      intro z' hz'
      obtain ⟨i, i1, i2⟩ := idx z' hz'
      obtain ⟨vs, ⟨j, e, j1, j2, ev⟩, hH⟩ := qt z'.1 (List.mem_of_getElem? i1)
      have eij : i = j := (List.getElem?_inj (List.getElem?_eq_some_iff.mp i1).1 nd).mp (i1.trans j1.symm)
      subst eij
      have ee : e = z'.2 := Option.some.inj (j2.symm.trans i2)
      rw [ev, ee] at hH
      exact hH
    clear hin hsort hperm kz idx ez pz rv hlen hzl I2 I3 qt g
    induction zs with
    | nil => exact .nil
    | cons z r ih => exact .cons (tupz z List.mem_cons_self) (ih fun y hy => tupz y (List.mem_cons_of_mem _ hy))
end Pw

set_option maxHeartbeats 4000000
namespace Pw
open PySem PySem.Spec PyProof.Rows L2 LamX
variable {P : Program} {w : World} {K : PySem.W.Frag} {mg : Str → Option Value} {base : Heap} {T : List (Addr × Str)}
theorem merge_dS : ∀ (l acc : Fs), ((acc ++ l).map (·.1)).Nodup → mergeK (dS acc) (dS l) = dS (acc ++ l)
  | [], acc, _ => by
    rw [List.append_nil]
    rfl
  | (k, v) :: l, acc, nd => by
    have hk : look acc k = none := by
      rw [look_none_iff]
      intro z
      rw [List.map_append, List.nodup_append] at nd
      exact nd.2.2 k z k (by simp) rfl
    have e : mergeK (dS acc) (dS ((k, v) :: l)) = mergeK (dS (put acc k v)) (dS l) := by
      have e2 : putK (dS acc) (Sum.inr k) (V.str v) = dS (put acc k v) := put_dk (f := V.str) acc k v
      show mergeK (putK (dS acc) (Sum.inr k) (V.str v)) (dS l) = _
      rw [e2]
    rw [e, put_out v hk, merge_dS l (acc ++ [(k, v)]) (by rw [List.append_assoc]; exact nd), List.append_assoc]
    rfl
theorem big_txt {n : Nat} (h : n < 10 ^ 19) : (((n : Nat) : Int).natAbs.log2 < 1920) ∧ SH.length + (Str.ofString (toString ((n : Nat) : Int))).length ≤ sizeLine := by
  have hd2 : (10 ^ 19 : Nat) ≤ 2 ^ 64 := by decide
  refine ⟨log2_small (Nat.lt_of_lt_of_le h hd2), ?_⟩
  have h1 := (gd_path h).1
  have h2 : (shPath n).length = SH.length + (Str.ofString (toString ((n : Nat) : Int))).length := by
    show (SH.cps ++ _).size = _
    rw [Array.size_append]
    rfl
  exact small_sz (by omega)
theorem mod_keep {H H1 : Hp} {S : List Addr} (h : ∀ b o, H b = some o → H1 b = some o) : Mod T S H H1 := Mod.same h
def spLKept (T : List (Addr × Str)) : Sp := fun vs H Q _ => ∃ (a : Addr) (fs : Fs), vs = [.ref a] ∧ FsAt H a fs ∧ FOk 1000 fs ∧ ∀ H' p, Mod T [] H H' → H p = none → FsAt H' p (keptOf fs) → Q (.ref p) H'
theorem sc_lkept : FnScope ["_law_files", "_law_found", "_law_number", "_law_path"] ["_law_files"] (defScope s_law_kept) := ⟨rfl, rfl, rfl, by decide +kernel, rfl, by decide +kernel, by decide +kernel⟩
theorem ok_lkept (D : PwDef K mg "_law_kept" s_law_kept) (cN : Cal P w K mg base 2 "_law_numbers" (spNums T) []) (ms : mg "sorted" = none) (md : mg "dict" = none) (mstr : mg "str" = none) : Cal P w K mg base 3 "_law_kept" (spLKept T) [] := by
  refine cal_of D sc_lkept (fun _ _ _ _ _ _ us hl => match us, hl with | [_], _ => rfl) (fun vs H Q E h => ?_) (fun f cdv A outer s H vs Q E hr h => ?_)
  · obtain ⟨a, fs, rfl, _⟩ := h
    rfl
  · obtain ⟨a, fs, rfl, hA, hok, q⟩ := h
    have hA : H a = some (.dK (dS fs)) := hA
    refine ⟨_, pss_cons (ps_set (i := 1) sc_lkept.nd rfl (.inl rfl) pe_dnewK)
      (pss_cons (ps_for PassesOwn.never rfl (pi_list (C8.pe_c cN hr (by decide) rfl (pa_cons (pv 0) (pa_cons pe_str pa_nil)))) (pg_name (i := 2) sc_lkept.nd rfl (.inl rfl))
        (pss_cons (ps_set (i := 3) sc_lkept.nd rfl (.inl rfl) (pe_op op_add_str pe_str (pe_callTy call_str_int (by rfl) mstr (by decide +kernel) (pa_cons (pv 2) pa_nil))))
        (pss_one (ps_if (pt_cmp (pc_dnotin (hu_of hr) (pe_dget (hu_of hr) (pv 0) (pv 3) (fun _ _ => rfl)) (pv 1)) (by rfl))
          (pss_one (ps_dput (hu_of hr) (pv 1) (pe_dget (hu_of hr) (pv 0) (pv 3) (fun _ _ => rfl)) (pv 3) rfl)) pss_nil))))
      (pss_one (ps_ret (pe_callTy (call_dictP rfl) (by rfl) md (by decide +kernel) (pa_cons
        (pe_callB (cr_sortedItemsS rfl) (by rfl) ms (by decide +kernel) (pa_cons (pe_bm0 PySem.F.plainAttrs_dict PySem.F.slot_dict_items PySem.F.type_dict_items mt_itemsK (pv 1)) pa_nil)) pa_nil))))), ?_⟩
    refine fun d hd => ?_
    have m0 : Mod T [] H (upd H d (.dK [])) := Mod.new hd
    have d0 : (upd H d (.dK [])) d = some (.dK []) := upd_same
    generalize upd H d (.dK []) = H0 at m0 d0
    refine ⟨_, rfl, a, fs, rfl, m0.dK hA, hok, fun H1 p m1 np e1 => ?_⟩
    refine ⟨p, rfl, ⟨_, SqL.of e1⟩, ?_⟩
    have d1 := m1.dK d0
    refine for_list (xs := (nums fs).map nV) (fun i σ' H' => ∃ y z, σ' = [some (.ref a), some (.ref d), y, z] ∧ Mod T [] H H' ∧ H' d = some (.dK (dS (foundN fs ((nums fs).take i)))) ∧ H' p = some (.lst ((nums fs).map nV)))
      ⟨none, none, rfl, m0.trans m1, d1, e1⟩ (fun i σ' H' _ ⟨_, _, _, _, _, e⟩ => SqL.of e) (fun i x σ' H' hx ⟨y, z, es, m, ed, ep⟩ => ?_) (fun σ' H' ⟨y, z, es, m, ed, ep⟩ => ?_)
    · subst es
      obtain ⟨n, hn, rfl⟩ := Option.map_eq_some_iff.mp ((List.getElem?_map (f := nV) ▸ hx : _))
      obtain ⟨h19, hs⟩ := mem_nums.mp (List.mem_of_getElem? hn)
      obtain ⟨t1, t2⟩ := big_txt h19
      obtain ⟨cc, hcc⟩ : ∃ cc, look fs (shPath n) = some cc := Option.isSome_iff_exists.mp hs
      have hcA : cAt fs (shPath n) = cc := by unfold cAt; rw [hcc]; rfl
      have g := dget_of (m.dK hA) (shPath n)
      rw [hcc] at g
      have hlen : (foundN fs ((nums fs).take i)).length ≤ 1000 := by
        have h1 := foundN_len fs ((nums fs).take i)
        have h2 := nums_len fs
        have h3 := hok.len
        rw [List.length_take] at h1
        omega
      have nxt : foundN fs ((nums fs).take (i + 1)) = setdef (foundN fs ((nums fs).take i)) cc (shPath n) := by rw [take_snoc hn, foundN_snoc, hcA]
      have ndp : p ≠ d := fun z => by
        rw [z] at ep
        rw [ed] at ep
        cases ep
      rw [nxt]
      generalize foundN fs ((nums fs).take i) = fd at *
      refine ⟨_, rfl, _, rfl, t1, SH, _, rfl, rfl, t2, ?_⟩
      have gd := dget_of ed cc
      refine ⟨_, rfl, _, rfl, a, .str cc, rfl, g, _, rfl, d, _, rfl, gd, _, rfl, ?_⟩
      refine ite2 (fun hn2 => ?_) (fun hn2 => ?_)
      · have hno : (look fd cc).isSome = false := by
          rw [Option.isSome_map] at hn2
          simpa using hn2
        refine ⟨_, rfl, _, rfl, _, rfl, _, rfl, a, .str cc, rfl, g, d, _, rfl, dput_of ed cc (shPath n) (small_lt (by omega)), ?_⟩
        refine ⟨_, _, rfl, m.own hd ed pl_dK, ?_, upd_lst ed (fun _ z => by cases z) ep⟩
        rw [upd_same]
        unfold setdef
        rw [if_neg (by rw [hno]; decide)]
      · have hyes : (look fd cc).isSome = true := by
          rw [Option.isSome_map] at hn2
          cases z : (look fd cc).isSome with
          | true => rfl
          | false =>
            rw [z] at hn2
            exact absurd rfl hn2
        refine ⟨_, _, rfl, m, ?_, ep⟩
        unfold setdef
        rw [if_pos hyes]
        exact ed
    · subst es
      have ed : H' d = some (.dK (dS (found fs))) := by
        rw [List.length_map, List.take_of_length_le (Nat.le_refl _)] at ed
        exact ed
      refine ⟨.ref d, rfl, .inr (.inr (.inl ⟨rfl, .inl ⟨_, ed⟩⟩)), d, _, rfl, rfl, ed, fun v hv => ?_⟩
      have m2 : Mod T [] H' (upd H' v (DX.itemsO v d)) := Mod.new hv
      have ev : (upd H' v (DX.itemsO v d)) v = some (DX.itemsO v d) := upd_same
      generalize upd H' v (DX.itemsO v d) = H2 at m2 ev
      refine ⟨v, d, found fs, rfl, ev, m2.dK ed, found_nd fs, fun H3 l ts k3 _ el et => ?_⟩
      have mm := (m.trans m2).trans (mod_keep (T := T) (S := []) k3)
      refine ⟨l, ts, dS (inOrd (found fs)), rfl, SqL.of el, ?_, fun r hr => ?_⟩
      · unfold dS dk
        generalize inOrd (found fs) = gs at et
        clear el
        induction et with
        | nil => exact .nil
        | cons r t ih => exact .cons (SqT.of r) ih
      · refine q _ r (mm.trans (Mod.new hr)) (mm.old r hr) ?_
        show upd H3 r _ r = _
        rw [upd_same]
        have := merge_dS (inOrd (found fs)) [] (by rw [List.nil_append]; exact inOrd_nd (found_nd fs))
        rw [List.nil_append] at this
        exact congrArg (fun z => some (HO.dK z)) this
end Pw

set_option maxHeartbeats 4000000
namespace Pw
open PySem PySem.Spec PyProof.Rows L2 LamX
variable {P : Program} {w : World} {K : PySem.W.Frag} {mg : Str → Option Value} {base : Heap} {T : List (Addr × Str)}
theorem mexN_snoc (a : List Nat) (t : Nat) : mexN (a ++ [t]) = mexN a + (if t = mexN a then 1 else 0) := by
  unfold mexN
  rw [List.foldl_append]
  rfl
def spLKeep (T : List (Addr × Str)) : Sp := fun vs H Q _ => ∃ (a c : Addr) (fs : Fs) (cs : List Str), vs = [.ref a, .ref c] ∧ FsAt H a fs ∧ FOk 63 fs ∧ H c = some (.lst (cs.map V.str)) ∧ (∀ c ∈ cs, Gd 1000 c) ∧ cs.length ≤ 10 ∧
  ∀ H' p, Mod T [] H H' → H p = none → Rows H' p (encs (deedsOf (plan fs cs))) → Q (.ref p) H'
theorem sc_lkeep : FnScope ["_law_files", "_law_contents", "_law_found", "_law_content", "_law_number", "_law_taken", "_law_deeds"] ["_law_files", "_law_contents"] (defScope s_law_keeping) := ⟨rfl, rfl, rfl, by decide +kernel, rfl, by decide +kernel, by decide +kernel⟩
theorem ok_lkeep (D : PwDef K mg "_law_keeping" s_law_keeping) (cK : Cal P w K mg base 3 "_law_kept" (spLKept T) []) (cN : Cal P w K mg base 2 "_law_numbers" (spNums T) []) (cA : Cal P w K mg base 1 "_law_after" (spLAfter T) [])
    (md : mg "dict" = none) (mi : mg "int" = none) (mstr : mg "str" = none) : Cal P w K mg base 4 "_law_keeping" (spLKeep T) [] := by
  refine cal_of D sc_lkeep (fun _ _ _ _ _ _ us hl => match us, hl with | [_, _], _ => rfl) (fun vs H Q E h => ?_) (fun f cdv A outer s H vs Q E hr h => ?_)
  · obtain ⟨a, c, fs, cs, rfl, _⟩ := h
    rfl
  · obtain ⟨a, c, fs, cs, rfl, hA, hok, hC, hg, hlc, q⟩ := h
    have hA : H a = some (.dK (dS fs)) := hA
    refine ⟨_, pss_cons (ps_par (i := 2) (j := 0) (by rfl) sc_lkeep.nd rfl rfl (by decide) rfl rfl (pa_cons (pe_lst pa_nil) (pa_cons (pe_callTy call_dictD (by rfl) md (by decide +kernel) (pa_cons (pv 0) pa_nil)) pa_nil)) (by rfl))
      (pss_cons (ps_for PassesOwn.never rfl (pi_list (pv 1)) (pg_name (i := 3) sc_lkeep.nd rfl (.inl rfl))
        (pss_one (ps_if (pt_cmp (pc_dnotin (hu_of hr) (pv 3) (C8.pe_c cK hr (by decide) rfl (pa_cons (pv 0) pa_nil))) (by rfl))
          (pss_cons (ps_set (i := 4) sc_lkeep.nd rfl (.inl rfl) pe_int)
          (pss_cons (ps_for PassesOwn.never rfl (pi_list (C8.pe_c cN hr (by decide) rfl (pa_cons (pv 0) (pa_cons pe_str pa_nil)))) (pg_name (i := 5) sc_lkeep.nd rfl (.inl rfl))
            (pss_one (ps_aug (i := 4) sc_lkeep.nd rfl (.inl rfl) (pe_callTy call_int1 (by rfl) mi (by decide +kernel) (pa_cons (pe_cmp (pc_eqI (pv 5) (pv 4)) (by rfl)) pa_nil)) ip_add)))
          (pss_cons (ps_set (i := 6) sc_lkeep.nd rfl (.inl rfl) (pe_lst (pa_cons (pe_tup (pa_cons pe_str (pa_cons pe_str (pa_cons (pv 3) pa_nil))))
              (pa_cons (pe_tup (pa_cons pe_str (pa_cons pe_str (pa_cons (pe_op op_add_str pe_str (pe_callTy call_str_int (by rfl) mstr (by decide +kernel) (pa_cons (pv 4) pa_nil))) pa_nil)))) pa_nil))))
          (pss_cons (ps_set (i := 0) sc_lkeep.nd rfl (.inl rfl) (C8.pe_c cA hr (by decide) rfl (pa_cons (pv 0) (pa_cons (pv 6) pa_nil))))
          (pss_one (ps_expr (pe_bm PySem.F.plainAttrs_list PySem.F.slot_list_extend PySem.F.type_list_extend mt_extend (pv 2) (pa_cons (pv 6) pa_nil))))))))
          pss_nil)))
      (pss_one (ps_ret (pv 2)))), ?_⟩
    refine ⟨Nat.zero_le _, fun dd hdd => ?_⟩
    have m0 : Mod T [] H (upd H dd (.lst [])) := Mod.new hdd
    have e0 : (upd H dd (.lst [])) dd = some (.lst []) := upd_same
    generalize upd H dd (.lst []) = H0 at m0 e0
    refine ⟨_, rfl, a, dS fs, rfl, .inl (m0.dK hA), fun d hd => ?_⟩
    have m1 : Mod T [] H0 (upd H0 d (.dK (dS fs))) := Mod.new hd
    have e1 : (upd H0 d (.dK (dS fs))) d = some (.dK (dS fs)) := upd_same
    generalize upd H0 d (.dK (dS fs)) = H1 at m1 e1
    refine ⟨_, _, rfl, ?_⟩
    have mA := m0.trans m1
    have p0 : plan fs (cs.take 0) = [] := by
      rw [List.take_zero]
      unfold plan
      rfl
    refine ⟨_, rfl, c, rfl, ⟨_, SqL.of (mA.lst hC)⟩, ?_⟩
    refine for_list (xs := cs.map V.str) (fun i σ' H' => ∃ (b : Addr) (y3 y4 y5 y6 : Option V), σ' = [some (.ref b), some (.ref c), some (.ref dd), y3, y4, y5, y6] ∧ Mod T [] H H' ∧ H' b = some (.dK (dS (doAll fs (deedsOf (plan fs (cs.take i)))))) ∧ Rows H' dd (encs (deedsOf (plan fs (cs.take i)))))
      ⟨d, none, none, none, none, rfl, mA, ?_, ?_⟩ (fun i σ' H' _ ⟨_, _, _, _, _, _, m, _⟩ => SqL.of (m.lst hC)) (fun i x σ' H' hx ⟨b, y3, y4, y5, y6, es, m, eb, er⟩ => ?_) (fun σ' H' ⟨b, y3, y4, y5, y6, es, m, eb, er⟩ => ?_)
    · rw [p0]
      exact e1
    · rw [p0]
      exact ⟨[], m1.lst e0, .nil⟩
    · subst es
      obtain ⟨cc, hcc, rfl⟩ := Option.map_eq_some_iff.mp ((List.getElem?_map (f := V.str) ▸ hx : _))
      have hpl : (cs.take i).length ≤ 10 := by
        rw [List.length_take]
        omega
      have hgp : ∀ c ∈ cs.take i, Gd 1000 c := fun c hc => hg c (List.mem_of_mem_take hc)
      obtain ⟨Pp, fok, _, _⟩ := plan_is (cs.take i) hok hgp (by omega)
      have lpl := plan_len (cs.take i) fs
      have epl : plan fs (cs.take (i + 1)) = plan fs (cs.take i) ++ plan (doAll fs (deedsOf (plan fs (cs.take i)))) [cc] := by rw [take_snoc hcc, plan_app]
      generalize hgs : doAll fs (deedsOf (plan fs (cs.take i))) = gs at *
      have fok1 : FOk 1000 gs := fok.mono (by omega)
      refine ⟨_, rfl, _, rfl, b, gs, rfl, eb, fok1, fun H3 kp m3 nk ek => ?_⟩
      refine ⟨kp, _, rfl, dget_of ek cc, _, rfl, ?_⟩
      have eb3 := m3.dK eb
      have er3 := er.mod m3
      have mm3 := m.trans m3
      refine ite2 (fun hn => ?_) (fun hn => ?_)
      · have hnone : look (keptOf gs) cc = none := by
          cases z : look (keptOf gs) cc with
          | none => rfl
          | some _ =>
            rw [z] at hn
            cases hn
        rw [plan_one hnone] at epl
        have edo : doAll fs (deedsOf (plan fs (cs.take (i + 1)))) = laid gs (mexN (nums gs), cc) := by
          rw [epl, doAll_deeds_app, hgs]
          exact doAll_new gs _
        have hsm : mexN (nums gs) ≤ 100 := by
          have h1 := mex_le (nums gs)
          have h2 := nums_len gs
          have h3 := fok.len
          omega
        -- the number
        refine ⟨_, rfl, b, gs, rfl, eb3, fok1, fun H4 l m4 nl el => ?_⟩
        refine ⟨l, rfl, ⟨_, SqL.of el⟩, ?_⟩
        refine for_list (xs := (nums gs).map nV) (fun j σ' H' => ∃ y5, σ' = [some (.ref b), some (.ref c), some (.ref dd), some (.str cc), some (.int ((mexN ((nums gs).take j) : Nat) : Int)), y5, y6] ∧ H' = H4) ⟨y5, rfl, rfl⟩ (fun j σ' H' _ ⟨_, _, e⟩ => by rw [e]; exact SqL.of el) (fun j x σ' H4' hx ⟨y, es, eh⟩ => ?_) (fun σ' H4' ⟨y, es, eh⟩ => ?_)
        · subst es
          subst eh
          obtain ⟨n, hn, rfl⟩ := Option.map_eq_some_iff.mp ((List.getElem?_map (f := nV) ▸ hx : _))
          refine ⟨_, rfl, _, rfl, _, rfl, _, _, rfl, rfl, .inr ⟨_, rfl, _, _, rfl, rfl, ?_⟩⟩
          refine ⟨some (nV n), ?_, rfl⟩
          rw [take_snoc hn, mexN_snoc]
          have e : ((mexN ((nums gs).take j) : Nat) : Int) + (if decide (((n : Nat) : Int) = ((mexN ((nums gs).take j) : Nat) : Int)) = true then 1 else 0) = ((mexN ((nums gs).take j) + (if n = mexN ((nums gs).take j) then 1 else 0) : Nat) : Int) := by
            by_cases z : n = mexN ((nums gs).take j)
            · rw [if_pos z, if_pos (decide_eq_true (by rw [z]))]
              rfl
            · rw [if_neg z, if_neg (by
                intro q
                have := of_decide_eq_true q
                omega)]
              rfl
          rw [← e]
          rfl
        · subst es
          have eh := eh.symm
          subst eh
          have eM : mexN ((nums gs).take ((nums gs).map nV).length) = mexN (nums gs) := by rw [List.length_map, List.take_of_length_le (Nat.le_refl _)]
          rw [eM]
          generalize hM : mexN (nums gs) = M at *
          obtain ⟨t1, t2⟩ := big_txt (n := M) (by omega)
          have eb4 := m4.dK eb3
          have er4 := er3.mod m4
          have mm4 := mm3.trans m4
          refine ⟨_, rfl, (by show 3 ≤ sizeLine; decide), fun u1 hu1 => ?_⟩
          have n1 : Mod T [] H4 (upd H4 u1 (.tup [.str (Str.ofString "put"), .str (Str.ofString "store/new"), .str cc])) := Mod.new hu1
          have eu1 : (upd H4 u1 (.tup [.str (Str.ofString "put"), .str (Str.ofString "store/new"), .str cc])) u1 = some (.tup [.str (Str.ofString "put"), .str (Str.ofString "store/new"), .str cc]) := upd_same
          generalize upd H4 u1 (.tup [.str (Str.ofString "put"), .str (Str.ofString "store/new"), .str cc]) = H5 at n1 eu1
          refine ⟨_, rfl, _, rfl, t1, SH, _, rfl, rfl, t2, (by show 3 ≤ sizeLine; decide), fun u2 hu2 => ?_⟩
          have n2 : Mod T [] H5 (upd H5 u2 (.tup [.str (Str.ofString "move"), .str (Str.ofString "store/new"), .str (SH ++ Str.ofString (toString ((M : Nat) : Int)))])) := Mod.new hu2
          have eu2 : (upd H5 u2 (.tup [.str (Str.ofString "move"), .str (Str.ofString "store/new"), .str (SH ++ Str.ofString (toString ((M : Nat) : Int)))])) u2 = some (.tup [.str (Str.ofString "move"), .str (Str.ofString "store/new"), .str (SH ++ Str.ofString (toString ((M : Nat) : Int)))]) := upd_same
          generalize upd H5 u2 (.tup [.str (Str.ofString "move"), .str (Str.ofString "store/new"), .str (SH ++ Str.ofString (toString ((M : Nat) : Int)))]) = H6 at n2 eu2
          have eu2 : H6 u2 = some (.tup [.str sMove, .str NEW, .str (shPath M)]) := eu2
          refine ⟨(by show 2 ≤ sizeLine; decide), fun u3 hu3 => ?_⟩
          have n3 : Mod T [] H6 (upd H6 u3 (.lst [.ref u1, .ref u2])) := Mod.new hu3
          have eu3 : (upd H6 u3 (.lst [.ref u1, .ref u2])) u3 = some (.lst [.ref u1, .ref u2]) := upd_same
          generalize upd H6 u3 (.lst [.ref u1, .ref u2]) = H7 at n3 eu3
          have nn := (n1.trans n2).trans n3
          have er7 := er4.mod nn
          have eb7 := nn.dK eb4
          have rows7 : Rows H7 u3 (encs (newDeeds (M, cc))) := ⟨[u1, u2], eu3, .cons ((n2.trans n3).tup eu1) (.cons (n3.tup eu2) .nil)⟩
          refine ⟨_, rfl, _, rfl, b, u3, gs, newDeeds (M, cc), rfl, eb7, rows7, by have := fok.len; omega, by show 2 ≤ 1000; decide, fun H8 b2 m8 nb2 eb2 => ?_⟩
          obtain ⟨as, eDD, tDD⟩ := er7.mod m8
          obtain ⟨as2, e82, t82⟩ := rows7.mod m8
          refine ⟨.ref dd, rfl, .inl ⟨rfl, _, SqL.of eDD⟩, _, rfl, dd, u3, _, _, rfl, rfl, eDD, e82, ?_, ?_⟩
          · rw [List.length_map, List.length_map, paired_len tDD, paired_len t82]
            unfold encs
            rw [List.length_map, List.length_map, deedsOf_len]
            show 2 * _ + 2 ≤ _
            exact small_sz (by omega)
          · have nb2d : b2 ≠ dd := fun z => by
              rw [z] at eb2
              have : H8 dd = some (.dK (dS (doAll gs (newDeeds (M, cc))))) := eb2
              rw [eDD] at this
              cases this
            refine ⟨b2, _, _, _, _, rfl, ((mm4.trans nn).trans m8).own hdd eDD pl_lst, ?_, as ++ as2, ?_, ?_⟩
            · rw [edo, ← doAll_new]
              exact upd_dK eDD (fun _ z => by cases z) eb2
            · rw [upd_same, List.map_append]
            · rw [epl]
              have e : encs (deedsOf (plan fs (cs.take i) ++ [(M, cc)])) = encs (deedsOf (plan fs (cs.take i))) ++ encs (newDeeds (M, cc)) := by
                unfold encs
                rw [deedsOf_app, List.map_append]
                rfl
              rw [e]
              exact tups_upd eDD (fun _ z => by cases z) (paired_app tDD t82)
      · have hyes : (look (keptOf gs) cc).isSome = true := by
          cases z : look (keptOf gs) cc with
          | none =>
            rw [z] at hn
            exact absurd rfl hn
          | some _ => rfl
        rw [plan_zero hyes, List.append_nil] at epl
        refine ⟨b, _, _, _, _, rfl, mm3, ?_, ?_⟩
        · rw [epl, hgs]
          exact eb3
        · rw [epl]
          exact er3
    · subst es
      rw [List.length_map, List.take_of_length_le (Nat.le_refl _)] at er
      exact ⟨_, rfl, q H' dd m hdd er⟩
end Pw

set_option maxHeartbeats 4000000
/-! a set made of a list of texts that are all different: how long it is; remove for texts -/
namespace Pw
open PySem PySem.Spec PyProof.Rows L2
section
variable {prog : Program} {w : World} {A : Around} {R : Result → Shared → Prop} {I : Addr} {fp wr : List Addr} {G : Array GenState → Array GenState → Prop} {n : Nat} {Pv : Nat → Value → Prop} {St : Nat → Shared → Prop}
abbrev SetS (prog : Program) (w : World) (h : Heap) (S : Addr) (xs : List Str) : Prop := h.SetOf (PySem.strKind prog w) S (fun k => decide (k ∈ xs)) xs.length
theorem setS_loop (W : WalksS prog w A.in1 I fp wr G n Pv St) (S : Addr) (hSf : S ∉ fp) (xs : List Str) (hn : n = xs.length) (nd : xs.Nodup) (hb : xs.length + 1 < scanBound) (hval : ∀ i v, Pv i v → ∃ x t, xs[i]? = some x ∧ v = .str x t) :
    ∀ (k i : Nat) (s : Shared), n - i = k → i ≤ n → St i s → SetS prog w s.heap S (xs.take i) → (∀ s', Moved (S :: wr) G s s' → SetS prog w s'.heap S xs → R (.ok (.ret .none)) s') →
      codeAny (model prog w) A (.builtin "set.update.loop" ⟨[.ref S, .ref I], []⟩) R s := by
  have hSw : S ∉ wr := fun h => hSf (W.sub _ h)
  have at' : ∀ {h h' : Heap} {ys : List Str}, SetS prog w h S ys → (∀ o, h.get? S = some o → h'.get? S = some o) → SetS prog w h' S ys := fun x k => by
    obtain ⟨o, es, ep, t, ho, r⟩ := x
    exact ⟨o, es, ep, t, k o ho, r⟩
  intro k
  induction k with
  | zero =>
    intro i s hk hi hst hS hR
    obtain rfl : i = n := by omega
    rw [List.take_of_length_le (by omega)] at hS
    refine codeAny_builtin F.entry_set_update_loop ?_
    rw [Around.under_plainId F.plain_set_update_loop _]
    refine wpAny_bind (W.done s _ _ hst fun s' hm => wpAny_pure (hR s' (hm.mono fun b hb => List.mem_cons_of_mem _ hb) (at' hS fun o e => hm.heap S o hSw e)))
  | succ k ih =>
    intro i s hk hi hst hS hR
    have hlt : i < n := by omega
    refine codeAny_builtin F.entry_set_update_loop ?_
    rw [Around.under_plainId F.plain_set_update_loop _]
    refine wpAny_bind (W.item i s _ _ hlt hst fun v s' hP hst' hm => ?_)
    obtain ⟨x, t, hx, rfl⟩ := hval i v hP
    have hS' := at' hS fun o e => hm.heap S o hSw e
    show wpAny _ A.in1 (holding [Value.str x t] (setAdd S (.str x t)) >>= _) _ _ s'
    refine wpAny_bind (wpAny_holding ?_)
    unfold setAdd
    refine wpAny_holding (wpAny_bind ((PySem.strKind prog w).pyHash (k := x) (strKind_is _ _ _ _) ?_))
    refine wpAny_setAddHashed_of (knd := PySem.strKind prog w) (s := { s' with toks := s'.toks + 1 }) (strKind_is _ _ _ _) rfl hS' (by rw [List.length_take]; omega) fun h' hsb hS2 => ?_
    have hx2 : x ∉ xs.take i := fun z => by
      obtain ⟨j, hj, e⟩ := List.mem_take_iff_getElem.mp z
      have h1 : xs[j]? = some x := by
        rw [List.getElem?_eq_getElem (by omega), e]
      have := (List.getElem?_inj (by omega) nd).mp (h1.trans hx.symm)
      omega
    have hlen : (xs.take (i + 1)).length = (xs.take i).length + 1 := by
      rw [List.length_take, List.length_take]
      omega
    have hS3 : SetS prog w h' S (xs.take (i + 1)) := SetOf_congr hS2 (fun j => by
      rw [List.take_add_one, hx]
      simp [List.mem_append]) (by rw [if_neg (by simpa using hx2), hlen])
    refine wpAny_pure ⟨plainId_quiet F.plain_set_update_loop _, ih (i + 1) _ (by omega) hlt (W.frame _ s' _ _ hst' (Nat.le_succ _) fun b hb o e => ?_) hS3 fun s'' hm'' hS'' => hR s'' (Moved.trans W.gtrans ((hm.mono fun b hb => List.mem_cons_of_mem _ hb).then_heap (Nat.le_succ _) fun b o hb e => ?_) hm'') hS''⟩
    · rw [hsb.2 b (fun h : b = S => hSf (by rw [← h]; exact hb))]; exact e
    · rw [hsb.2 b (fun h : b = S => hb (by rw [h]; exact List.mem_cons_self))]; exact e
end
/-- a new empty set's object -/
abbrev emO (w : World) : Obj := { cls := .type "set", dict := none, data := .set #[] 0 (.fresh 0 0 (!w.params.followText "set-order")) }
section
variable {P : Program} {w : World} {A : Around} {E : Value → Shared → Prop} {s : Shared} {l S : Addr} {its : Array Value} {xs : List Str}
/-- the empty set S is filled from the list l -/
theorem fill_strs (nh : A.handled = none) (gS : s.heap.get? S = some (emO w)) (gl : s.heap.IsList l its) (rs : StrsAre its.toList xs) (nd : xs.Nodup) (few : xs.length + 1 < scanBound) :
    wpAny (model P w) A (Builtin.«set.__init__» ⟨[.ref S, .ref l], []⟩) (fun r z => r = .done (.ret .none) ∧ ∃ h' tk, z = { s with heap := h', toks := tk } ∧ SetS P w h' S xs ∧ ∀ b o, b ≠ S → s.heap.get? b = some o → h'.get? b = some o) E s := by
  have sz : its.size = xs.length := (Array.length_toList).symm.trans (StrsAre.len_eq rs)
  have at_ : ∀ i v, its[i]? = some v → ∃ (x : Str) (t : Tok), xs[i]? = some x ∧ v = Value.str x t := fun i v e => by
    obtain ⟨hi, _⟩ := Array.getElem?_eq_some_iff.mp e
    obtain ⟨t, q⟩ := SS.strs_at rs i v (Array.getElem?_toList ▸ e)
    have g : xs[i]? = some (xs[i]'(sz ▸ hi)) := List.getElem?_eq_getElem _
    exact ⟨_, t, g, by rw [q, List.getD_eq_getElem?_getD, g]; rfl⟩
  have ltS := Heap.lt_size gS
  have gl0 := gl
  obtain ⟨⟨c, d, dat, sl⟩, e0, e1, k, e2⟩ := gl
  have ltl := Heap.lt_size e0
  have apart : l ≠ S := fun q => by
    rw [q, gS] at e0
    cases e0
    exact absurd (Value.type.inj e1) (by decide)
  dsimp only at e1 e2
  subst e1 e2
  have u1 := F.sub_list_set
  have u2 := F.sub_list_frozenset
  have u3 : (Value.type "list" == Value.type "dict") = false := by decide
  unfold Builtin.«set.__init__» noKeywords Builtin.Frozenset.updateFrom
  generalize hPI : pyIter = PI
  wp_walk
  subst hPI
  refine wpAny_pyIter_list gl0 (wpAny_bind (wpAny_runValue ?_))
  have offS : S ∉ [s.heap.objs.size, l] := by
    intro q
    rcases List.mem_cons.mp q with q | q
    · exact Nat.ne_of_lt ltS q
    · exact apart (List.mem_singleton.mp q).symm
  refine setS_loop ((Walks.list (by simp [nh]) _ l (Nat.ne_of_lt ltl) its).toS) S offS xs sz nd few at_ its.size 0 _ (Nat.sub_zero _) (Nat.zero_le _) ⟨⟨_, Heap.get?_push_size _ rfl, rfl, rfl⟩, gl0.push _⟩
    ⟨_, #[], 0, _, Heap.get?_push_of_some _ gS, ⟨rfl, rfl, rfl⟩, rfl, fun e q => by simp at q, fun q => by simp, by decide, rfl, rfl⟩ fun z mv got => ?_
  obtain ⟨h', g, dr, tk, os⟩ := z
  obtain rfl : g = s.gens := mv.gens
  obtain rfl : dr = s.drawn := mv.drawn
  obtain rfl : os = s.os := mv.os
  refine wpAny_pure (wpAny_pure ⟨rfl, h', tk, rfl, got, fun b o off e => ?_⟩)
  have := Heap.lt_size e
  refine mv.heap b o (fun q => ?_) (Heap.get?_push_of_some _ e)
  rcases List.mem_cons.mp q with q | q
  · exact off q
  · exact Nat.ne_of_lt this (List.mem_singleton.mp q)
theorem call_set_strs {Q : Value → Shared → Prop} (nh : A.handled = none) (gl : s.heap.IsList l its) (rs : StrsAre its.toList xs) (nd : xs.Nodup) (few : xs.length + 1 < scanBound)
    (q : ∀ (h' : Heap) (tk : Nat), SetS P w h' s.heap.objs.size xs → (∀ b o, s.heap.get? b = some o → h'.get? b = some o) → Q (.ref s.heap.objs.size) { s with heap := h', toks := tk }) :
    wpAny (model P w) A (call (.type "set") [.ref l]) Q E s := by
  obtain ⟨_, _, m0⟩ := F.called_set.mro
  have m1 := F.called_set.made
  have m2 := F.called_set.sub
  have m3 := F.called_set.notType
  have m4 := F.called_set.canCreate
  have m5 := F.typeCall_set_1 (.ref l)
  have m6 := F.called_set.init.lookup
  have m7 := F.called_set.init.bind (.ref s.heap.objs.size)
  refine wpAny_call (codeAny_of_tree (show wpAny _ _ (callAny (.type "set") _) _ _ _ from wpAny_pure ⟨Code.quiet_builtin _ (by decide +kernel), codeAny_builtin F.entry_type_call ?_⟩))
  rw [Around.under_plain (weight_type_call_type "set" [.ref l] []) rfl]
  have gS : (s.heap.push (emO w)).get? s.heap.objs.size = some (emO w) := Heap.get?_push_size _ rfl
  generalize hO : emO w = ob at gS
  repeat (any_goals (first | assumption | wp_step))
  refine codeAny_mono (code_set_led1 (.ref l) (E := E) (Q₁ := fun x z => x = .ref s.heap.objs.size ∧ z = { s with heap := s.heap.push ob }) (by rw [← hO]; exact ⟨rfl, rfl⟩)) fun r z got => ?_
  rcases r with e | f
  · exact got
  cases f
  case ret x =>
    obtain ⟨rfl, rfl⟩ := got
    have tS : Shared.TypeIs { s with heap := s.heap.push ob } (.ref s.heap.objs.size) "set" := ⟨_, gS, by rw [← hO]⟩
    repeat (any_goals (first | assumption | wp_step))
    refine codeAny_mono (codeAny_call_builtin (R := wants (fun r z => r = .none ∧ ∃ h' tk, z = { s with heap := h', toks := tk } ∧ SetS P w h' s.heap.objs.size xs ∧ (∀ b o, s.heap.get? b = some o → h'.get? b = some o)) E)
      F.called_set.init.plain F.entry_set_init (check_set_init_1 tS ?_)) fun r z got => ?_
    · subst hO
      refine wpAny_mono (fill_strs (by simp [nh]) gS (gl.push _) rs nd few) (fun r z got => ?_) fun e z got => got
      obtain ⟨rfl, h', tk, rfl, a, b⟩ := got
      exact ⟨rfl, h', tk, rfl, a, fun c o e => b c o (Nat.ne_of_lt (Heap.lt_size e)) (Heap.get?_push_of_some _ e)⟩
    · rcases r with e | f
      · exact got
      cases f
      case ret x =>
        obtain ⟨rfl, h', tk, rfl, a, b⟩ := got
        repeat (any_goals (first | assumption | wp_step))
        exact q _ _ a b
      all_goals exact got.elim
  all_goals exact got.elim
end
section
variable {X : Cx}
/-- len(set(xs)), texts that are all different -/
def tLenSetS (K : PySem.W.Frag) (ta : TE) : TE := fun σ H Q => ta σ H fun x H1 => ∃ (l : Addr) (xs : List Str), x = .ref l ∧ SqL K H1 l (xs.map V.str) ∧ xs.Nodup ∧ xs.length ≤ 4000 ∧ Q (.int (xs.length : Nat)) H1
theorem pe_lenSetS {a : Expr} {ta : TE} {p p2 q pos : Pos} (hc : X.calm = true) (hg : Gl X "len") (hm : X.mg "len" = none) (hg2 : Gl X "set") (hm2 : X.mg "set" = none) (ha : PE X a ta)
    (na : starEach [a] X.env = (false, eval a X.env) :: starEach [] X.env := by rfl) : PE X (.Call (.Name "len" p) [.Call (.Name "set" p2) [a] [] q] [] pos) (tLenSetS X.K ta) := by
  refine ⟨fun pins s σ H Q I h => ?_⟩
  refine Call_ (ld_blt I hg hm boot_len (callWith_builtin1 (args_cons ?_ rfl) rfl rfl))
  refine Call_ (ld_blt I hg2 hm2 boot_set (callWith_type1 (args_cons (thn (ha.run pins s σ H _ I h) fun v s1 ⟨x, H1, I1, r1, q1⟩ => args_nil ?_) na) na rfl))
  obtain ⟨l, xs, rfl, hq, nd, h1, q1⟩ := q1
  cases r1
  obtain ⟨its, r, pl, hz⟩ := I1.list hq
  refine call_set_strs (xs := xs) (I1.ok.hd hc) pl.isList (by simpa using L2.strsAre_of r) nd (by unfold scanBound; omega) fun h' tk hS hk => args_nil ?_
  obtain ⟨o, es, ep, t, ho, hex, hd, _, _, _, hf, hn⟩ := hS
  have I2 : Inv X pins σ H1 { s1 with heap := h', toks := tk } := I1.kept hk
  exact call_len_set ho hex hd hf (by rw [hn] <;> omega) ⟨.int xs.length, H1, I2.tok _, ⟨_, by rw [hn]⟩, q1⟩
/-- xs.remove(c), texts; c is there -/
def eqT (k : Str) (v : Value) : Bool := match v with
  | .str x _ => x.cps.toList == k.cps.toList
  | _ => false
theorem strs_get : ∀ {xs : List Str} {us : List Value}, Vals (xs.map V.str) us → ∀ {i : Nat} {v : Value}, us[i]? = some v → ∃ x t, xs[i]? = some x ∧ v = .str x t
  | [], _, .nil, i, v, h => by simp at h
  | x :: xs, _, .cons r t, 0, v, h => by
    obtain ⟨k, rfl⟩ := r
    exact ⟨x, k, rfl, (Option.some.inj h).symm⟩
  | x :: xs, _, .cons r t, i + 1, v, h => strs_get t (i := i) h
theorem erase_at : ∀ {xs : List Str} {c : Str}, c ∈ xs → ∃ j, xs[j]? = some c ∧ (∀ m : Nat, m < j → xs[m]? ≠ some c) ∧ (xs.map V.str).eraseIdx j = (xs.erase c).map V.str
  | [], _, h => by cases h
  | a :: r, c, h => by
    by_cases e : a = c
    · refine ⟨0, by rw [e]; rfl, fun m hm => absurd hm (Nat.not_lt_zero _), ?_⟩
      rw [e, List.erase_cons_head]
      rfl
    · rcases List.mem_cons.mp h with z | z
      · exact absurd z.symm e
      · obtain ⟨j, h1, h2, h3⟩ := erase_at z
        refine ⟨j + 1, h1, fun m hm => ?_, ?_⟩
        · cases m with
          | zero =>
            intro q
            exact e (Option.some.inj q)
          | succ m => exact h2 m (Nat.lt_of_succ_lt_succ hm)
        · rw [List.erase_cons_tail (by simpa using e)]
          show V.str a :: (r.map V.str).eraseIdx j = V.str a :: (r.erase c).map V.str
          rw [h3]
def rRemS : V → List V → Hp → VK → Prop := fun x xs H Q => ∃ (l : Addr) (ns : List Str) (c : Str), x = .ref l ∧ xs = [.str c] ∧ H l = some (.lst (ns.map V.str)) ∧ c ∈ ns ∧ Q .non (upd H l (.lst ((ns.erase c).map V.str)))
theorem mt_removeS : MtM X "list.remove" rRemS := by
  intro pins s σ H x xs v us Q I rx rxs h
  obtain ⟨l, ns, k, rfl, rfl, hH, hk, q⟩ := h
  cases rx
  obtain ⟨u, rfl, ru⟩ := rxs.one
  obtain ⟨t, rfl⟩ := ru
  obtain ⟨j, hj, hno, her⟩ := erase_at hk
  obtain ⟨z, its, n, r, hl, e⟩ := I.lstM hH
  rw [List.length_map] at hl z
  have hjn : j < ns.length := (List.getElem?_eq_some_iff.mp hj).1
  have hjl : j < its.toArray.size := by rw [List.size_toArray]; omega
  have gives : ∀ y ∈ its.toArray, MeetsSeq.EqGives y (.str k t) (eqT k y) := fun y hy => by
    obtain ⟨i, hi⟩ := List.mem_iff_getElem?.mp (by simpa using hy : y ∈ its)
    obtain ⟨x, t', _, rfl⟩ := strs_get r hi
    exact SeqRoads2.EqGives.str x k t' t
  refine call_meets PySem.F.slot_list_remove ⟨_, e, rfl⟩ PySem.F.entry_list_remove (PySem.F.args_list_remove_2 _ _)
    (MeetsSeq.list_remove l its.toArray n (.str k t) (eqT k) gives j hjl ?_ ?_ (by rw [List.size_toArray]; omega)) ⟨e, ?_⟩
  · have hv : its[j]? = some its.toArray[j] := by simp
    obtain ⟨x, t', h1, h2⟩ := strs_get r hv
    rw [h2]
    obtain rfl : x = k := Option.some.inj (h1.symm.trans hj)
    show (x.cps.toList == x.cps.toList) = true
    exact beq_self_eq_true _
  · intro m hm hmj
    have hv : its[m]? = some its.toArray[m] := by simp
    obtain ⟨x, t', h1, h2⟩ := strs_get r hv
    rw [h2]
    show (x.cps.toList == k.cps.toList) = false
    rw [beq_eq_false_iff_ne]
    intro e2
    exact hno m hmj (by rw [h1, cps_inj e2])
  · have rr := r.eraseIdx j
    rw [her] at rr
    refine ⟨.non, _, I.lset (its' := its.eraseIdx j) (t' := s.toks) hH e ?_ rr ?_, rfl, q⟩
    · show its.toArray.eraseIdxIfInBounds j = (its.eraseIdx j).toArray
      rw [List.eraseIdxIfInBounds_toArray]
    · rw [List.length_map]
      have := List.length_erase_le (a := k) (l := ns)
      omega
end
end Pw

set_option maxHeartbeats 4000000
namespace Pw
open PySem PySem.Spec PyProof.Rows L2 LamX
variable {P : Program} {w : World} {K : PySem.W.Frag} {mg : Str → Option Value} {base : Heap} {T : List (Addr × Str)}
/-- a dict that is read, be it locked or not -/
theorem rd_lock {H : Hp} {a b : Addr} {u v : HO} {ob : Obj} (ha : H a = some u) (hb : H b = some v) : Rd (upd H b (.frz ob v)) a u := by
  by_cases e : a = b
  · subst e
    rw [ha] at hb
    cases hb
    exact .inr ⟨ob, upd_same⟩
  · exact .inl (by rw [upd_ne e]; exact ha)
theorem rd_mod {H H1 : Hp} {a : Addr} {kvs : List (Key × V)} (m : Mod T [] H H1) (h : Rd H a (.dK kvs)) : Rd H1 a (.dK kvs) := by
  rcases h with h | ⟨o, h⟩
  · exact .inl (m.dK h)
  · exact .inr ⟨o, m.at0 noT_frz h⟩
theorem remAll_snoc (f a : List Str) (c : Str) : remAll f (a ++ [c]) = (remAll f a).erase c := by
  unfold remAll
  rw [List.foldl_append]
  rfl
theorem remAll_len (f : List Str) : ∀ a : List Str, (remAll f a).length ≤ f.length := by
  intro a
  induction a generalizing f with
  | nil => exact Nat.le_refl _
  | cons c r ih => exact Nat.le_trans (ih (f.erase c)) (List.length_erase_le)
theorem conts_len (fs : Fs) : (conts fs).length ≤ fs.length := by
  unfold conts
  rw [List.length_map]
  exact nums_len fs
def spRight (T : List (Addr × Str)) : Sp := fun vs H Q _ => ∃ (a b c : Addr) (fs gs : Fs) (cs : List Str), vs = [.ref a, .ref b, .ref c] ∧ FsAt H a fs ∧ FsAt H b gs ∧ FOk 1000 fs ∧ FOk 1000 gs ∧ H c = some (.lst (cs.map V.str)) ∧ CutOk fs gs cs ∧
  ∀ H', Mod T [] H H' → Q (.bl true) H'
abbrev nRight : List Str := ["_law_before", "_law_behind", "_law_contents", "_law_path", "_law_changed", "_law_number", "_law_shelves", "_law_olds", "_law_fresh", "_law_content"]
theorem sc_right : FnScope nRight ["_law_before", "_law_behind", "_law_contents"] (defScope s_law_is_cut_right) := ⟨rfl, rfl, rfl, by decide +kernel, rfl, by decide +kernel, by decide +kernel⟩
theorem ok_right (D : PwDef K mg "_law_is_cut_right" s_law_is_cut_right) (cN : Cal P w K mg base 2 "_law_numbers" (spNums T) []) (cO : Cal P w K mg base 1 "_law_number_of" (spNo T) [])
    (ml : mg "len" = none) (mset : mg "set" = none) (mli : mg "list" = none) (mstr : mg "str" = none) : Cal P w K mg base 3 "_law_is_cut_right" (spRight T) [] := by
  refine cal_of D sc_right (fun _ _ _ _ _ _ us hl => match us, hl with | [_, _, _], _ => rfl) (fun vs H Q E h => ?_) (fun f cdv A outer s H vs Q E hr h => ?_)
  · obtain ⟨a, b, c, fs, gs, cs, rfl, _⟩ := h
    rfl
  · obtain ⟨a, b, c, fs, gs, cs, rfl, hA, hB, hok, hog, hC, hcut, q⟩ := h
    have hA : H a = some (.dK (dS fs)) := hA
    have hB : H b = some (.dK (dS gs)) := hB
    refine ⟨_, pss_cons (ps_lock (ps_for PassesOwn.never rfl (pi_keys (pv 1)) (pg_name (i := 3) sc_right.nd rfl (.inl rfl))
        (pss_one (ps_if (PW.pt (pw_and (pt_cmp (pc_dnotin (hu_of hr) (pv 3) (pv 0)) (by rfl)) (pw_and1 (pt_cmpR op_ne (pv 3) pe_str (nomark _)))))
          (pss_one (ps_if (PW.pt (pw_or (pt_cmp (pc_isN (C8.pe_c cO hr (by decide) rfl (pa_cons (pv 3) (pa_cons pe_str pa_nil)))) (by rfl)) (pw_or1 (pt_cmpR op_notIn_seq (pe_dget (hu_of hr) (pv 1) (pv 3) (fun _ _ => rfl)) (pv 2) (by rfl)))))
            (pss_one (ps_ret pe_bl)) pss_nil)) pss_nil))))
      (pss_cons (ps_lock (ps_setLc (i := 4) (own := [("_law_path", 3)]) (g := gName 3) (by rfl) sc_right.nd rfl rfl (sw_true rfl rfl rfl (by decide +kernel)) (pi_keys (pv 0))
        (blkOk_by (own := [("_law_path", 3)]) (N := nRight) (sc := defScope s_law_is_cut_right) (by decide +kernel)) (fun _ _ _ _ _ => pg_name (i := 3) sc_right.nd rfl (Or.inl rfl))
        (fun _ _ _ _ _ => pts_one (PW.pt (pw_and (pt_cmpR op_ne (pv 3) pe_str (by rfl)) (pw_and1 (pt_cmpR op_ne (pe_dget1 (hu_of hr) (pv 1) (pv 3) (by constructor <;> rfl)) (pe_dget (hu_of hr) (pv 0) (pv 3) (fun _ _ => rfl)) (by rfl)))))) (fun _ _ _ _ _ => pv 3)))
      (pss_cons (ps_setLc (i := 6) (own := [("_law_number", 5)]) (g := gName 5) (by rfl) sc_right.nd rfl rfl (sw_true rfl rfl rfl (by decide +kernel)) (pi_list (C8.pe_c cN hr (by decide) rfl (pa_cons (pv 1) (pa_cons pe_str pa_nil))))
        (blkOk_by (own := [("_law_number", 5)]) (N := nRight) (sc := defScope s_law_is_cut_right) (by decide +kernel)) (fun _ _ _ _ _ => pg_name (i := 5) sc_right.nd rfl (Or.inl rfl))
        (fun _ _ _ _ _ => pts_nil) (fun _ _ _ _ _ => pe_dget (hu_of hr) (pv 1) (pe_op op_add_str pe_str (pe_callTy call_str_int (by rfl) mstr (by decide +kernel) (pa_cons (pv 5) pa_nil))) (fun _ _ => rfl)))
      (pss_cons (ps_setLc (i := 7) (own := [("_law_number", 5)]) (g := gName 5) (by rfl) sc_right.nd rfl rfl (sw_true rfl rfl rfl (by decide +kernel)) (pi_list (C8.pe_c cN hr (by decide) rfl (pa_cons (pv 0) (pa_cons pe_str pa_nil))))
        (blkOk_by (own := [("_law_number", 5)]) (N := nRight) (sc := defScope s_law_is_cut_right) (by decide +kernel)) (fun _ _ _ _ _ => pg_name (i := 5) sc_right.nd rfl (Or.inl rfl))
        (fun _ _ _ _ _ => pts_nil) (fun _ _ _ _ _ => pe_dget (hu_of hr) (pv 0) (pe_op op_add_str pe_str (pe_callTy call_str_int (by rfl) mstr (by decide +kernel) (pa_cons (pv 5) pa_nil))) (fun _ _ => rfl)))
      (pss_cons (ps_set (i := 8) sc_right.nd rfl (.inl rfl) (pe_callTy call_list_of (by rfl) mli (by decide +kernel) (pa_cons (pv 6) pa_nil)))
      (pss_cons (ps_for PassesOwn.never rfl (pi_list (pv 7)) (pg_name (i := 9) sc_right.nd rfl (.inl rfl))
        (pss_one (ps_if (pt_cmpR op_in_seq (pv 9) (pv 8) (by rfl)) (pss_one (ps_expr (pe_bm PySem.F.plainAttrs_list PySem.F.slot_list_remove PySem.F.type_list_remove mt_removeS (pv 8) (pa_cons (pv 9) pa_nil)))) pss_nil)))
      (pss_one (ps_ret (pe_and (pe_cmpR (op_eqD hr.units) (pv 4) (pe_lst pa_nil) (by rfl)) (pe_and (pe_cmp (pc_eqI (pe_callB call_len_seq (by rfl) ml PySem.boot_len (pa_cons (pv 8) pa_nil)) (pe_lenSetS rfl rfl ml rfl mset (pv 8))) (by rfl))
        (pe_one (pe_cmpR (op_eqD hr.units) (pe_lc (own := [("_law_content", 9)]) (g := gName 9) (by rfl) sc_right.nd (pi_list (pv 8)) (blkOk_by (own := [("_law_content", 9)]) (N := nRight) (sc := defScope s_law_is_cut_right) (by decide +kernel)) (fun _ _ _ _ _ => pg_name (i := 9) sc_right.nd rfl (Or.inl rfl))
          (fun _ _ _ _ _ => pts_one (pt_cmpR (notIn_k (K := K)) (pv 9) (pv 2) (by rfl))) (fun _ _ _ _ _ => pv 9)) (pe_lst pa_nil) (by rfl)))))))))))), ?_⟩
    -- for path in behind
    refine ⟨b, _, hB, trivial, fun od => ?_⟩
    have ra0 : Rd (upd H b (.frz od (.dK (dS gs)))) a (.dK (dS fs)) := rd_lock hA hB
    have rb0 : Rd (upd H b (.frz od (.dK (dS gs)))) b (.dK (dS gs)) := rd_lock hB hB
    have c0 : (upd H b (.frz od (.dK (dS gs)))) c = some (.lst (cs.map V.str)) := upd_lst hB (fun _ z => by cases z) hC
    have l0 : (upd H b (.frz od (.dK (dS gs)))) b = some (.frz od (.dK (dS gs))) := upd_same
    refine ⟨_, rfl, b, od, rfl, .inl ⟨dS gs, l0, ?_⟩⟩
    refine for_it walk_keys (fun i σ' H' => ∃ y, σ' = [some (.ref a), some (.ref b), some (.ref c), y, none, none, none, none, none, none] ∧ Mod T [] (upd H b (.frz od (.dK (dS gs)))) H') ⟨none, rfl, Mod.refl _⟩ (fun i σ' H' _ ⟨_, _, m⟩ => m.at0 noT_frz l0) (fun i x σ' H' H'' hi hp hy => ?_) (fun σ' H' hp => ?_)
    · obtain ⟨y, es, m⟩ := hp
      subst es
      obtain ⟨rfl, k, v, hk, rfl⟩ := hy
      rw [get_dk] at hk
      obtain ⟨kv, hkv, hkk⟩ := Option.map_eq_some_iff.mp hk
      cases hkk
      have hkm := List.mem_of_getElem? hkv
      have lkg := mem_look hog.nd (show (kv.1, kv.2) ∈ gs from hkm)
      have gk := (hog.gd kv hkm).1
      refine ⟨_, rfl, _, rfl, a, _, rfl, dget_rd (rd_mod m ra0) kv.1, _, rfl, ?_⟩
      refine ite2 (fun h1 => ?_) (fun h1 => ?_)
      · have hno : look fs kv.1 = none := by
          cases z : look fs kv.1 with
          | none => rfl
          | some _ =>
            rw [z] at h1
            cases h1
        refine ⟨_, rfl, rfl, _, rfl, ?_⟩
        refine ite2 (fun h2 => ?_) (fun h2 => ?_)
        · have hne : kv.1 ≠ NEW := fun z => by
            rw [z] at h2
            revert h2
            decide +kernel
          obtain ⟨n1, cc, n2, n3⟩ := cut_new hcut (p := kv.1) (by rw [lkg]; rfl) hno hne
          obtain ⟨n, hn⟩ := Option.isSome_iff_exists.mp n1
          refine ⟨_, rfl, kv.1, rfl, gk, fun H3 m3 => ?_⟩
          rw [hn]
          refine ⟨_, rfl, iteF ?_⟩
          have g := dget_rd (rd_mod (m.trans m3) rb0) kv.1
          rw [n2] at g
          refine ⟨_, rfl, _, rfl, b, .str cc, rfl, g, _, rfl, c, cs.map V.str, rfl, .inl (SqL.of ((m.trans m3).lst c0)), rfl, flat_strs cs, _, rfl, ?_⟩
          rw [inV_strs, decide_eq_true n3]
          refine iteF ?_
          exact ⟨_, rfl, m.trans m3⟩
        · exact ⟨_, rfl, m⟩
      · exact iteF ⟨_, rfl, m⟩
    · obtain ⟨y, es, m⟩ := hp
      subst es
      have lb : H' b = some (.frz od (.dK (dS gs))) := m.at0 noT_frz l0
      refine ⟨lb, ?_⟩
      have mU : Mod T [] H (upd H' b (.dK (dS gs))) := Mod.unlock hB pl_dK m lb
      generalize upd H' b (.dK (dS gs)) = H1 at mU
      clear ra0 rb0 c0 l0 m lb
      -- changed
      refine ⟨a, _, mU.dK hA, trivial, fun od2 => ?_⟩
      have ra1 : Rd (upd H1 a (.frz od2 (.dK (dS fs)))) a (.dK (dS fs)) := rd_lock (mU.dK hA) (mU.dK hA)
      have rb1 : Rd (upd H1 a (.frz od2 (.dK (dS fs)))) b (.dK (dS gs)) := rd_lock (mU.dK hB) (mU.dK hA)
      have l1 : (upd H1 a (.frz od2 (.dK (dS fs)))) a = some (.frz od2 (.dK (dS fs))) := upd_same
      refine ⟨_, rfl, a, od2, rfl, .inl ⟨dS fs, l1, fun B hBn => ?_⟩⟩
      have nBa : B ≠ a := fun z => by
        rw [z, upd_same] at hBn
        cases hBn
      refine lc_it walk_keys (fun i H2 => Mod T [] (upd H1 a (.frz od2 (.dK (dS fs)))) H2 ∧ H2 B = some (.lst [])) ⟨Mod.new hBn, upd_same⟩ (fun i H2 _ hp => hp.1.at0 noT_frz l1) (fun i x H2 H3 hi hp hy => ?_) (fun H2 hp => ?_)
      · obtain ⟨m, e⟩ := hp
        obtain ⟨rfl, k, v, hk, rfl⟩ := hy
        rw [get_dk] at hk
        obtain ⟨kv, hkv, hkk⟩ := Option.map_eq_some_iff.mp hk
        cases hkk
        have hkm := List.mem_of_getElem? hkv
        have lkf := mem_look hok.nd (show (kv.1, kv.2) ∈ fs from hkm)
        refine ⟨rfl, ?_⟩
        refine ⟨_, rfl, rfl, _, rfl, ?_⟩
        refine ite2 (fun h2 => ?_) (fun h2 => ?_)
        · have hne : kv.1 ≠ NEW := fun z => by
            rw [z] at h2
            revert h2
            decide +kernel
          have lkg := cut_old hcut (p := kv.1) (by rw [lkf]; rfl) hne
          rw [lkf] at lkg
          have g1 := dget_rd (rd_mod m rb1) kv.1
          rw [lkg] at g1
          have g2 := dget_rd (rd_mod m ra1) kv.1
          rw [lkf] at g2
          refine ⟨_, rfl, b, rfl, .inl ⟨_, rd_mod m rb1⟩, _, rfl, _, g1, ?_⟩
          refine ⟨_, rfl, _, rfl, a, .str kv.2, rfl, g2, rfl, _, rfl, ?_⟩
          have hf : (!decide ((V.str kv.2) = V.str kv.2)) = false := by rw [decide_eq_true rfl]; rfl
          refine ite2 (fun h3 => ?_) (fun h3 => ?_)
          · exact absurd h3 (by
              show ¬ (!decide ((V.str kv.2) = V.str kv.2)) = true
              rw [hf]
              decide)
          · exact ⟨m, e⟩
        · exact iteF ⟨m, e⟩
      · obtain ⟨m, e⟩ := hp
        have la : H2 a = some (.frz od2 (.dK (dS fs))) := m.at0 noT_frz l1
        refine ⟨la, ?_⟩
        have mV : Mod T [] H1 (upd H2 a (.dK (dS fs))) := Mod.unlock (mU.dK hA) pl_dK m la
        have eB : (upd H2 a (.dK (dS fs))) B = some (.lst []) := by
          rw [upd_ne nBa]
          exact e
        generalize upd H2 a (.dK (dS fs)) = H4 at mV eB
        have m4 := mU.trans mV
        clear ra1 rb1 l1 m la nBa hBn mU mV e
        -- shelves
        have turn : ∀ (gs : Fs) (b : Addr) (H5 : Hp) (i : Nat) (n : Nat), FOk 1000 gs → H5 b = some (.dK (dS gs)) → (nums gs)[i]? = some n → (((n : Nat) : Int).natAbs.log2 < 1920) ∧ SH.length + (Str.ofString (toString ((n : Nat) : Int))).length ≤ sizeLine ∧ DGet H5 b (.str (shPath n)) (some (.str (cAt gs (shPath n)))) := by
          intro gs b H5 i n hg hb hn
          obtain ⟨h19, hs⟩ := mem_nums.mp (List.mem_of_getElem? hn)
          obtain ⟨t1, t2⟩ := big_txt h19
          refine ⟨t1, t2, ?_⟩
          have g := dget_of hb (shPath n)
          obtain ⟨cc, hcc⟩ := Option.isSome_iff_exists.mp hs
          rw [hcc] at g
          unfold cAt
          rw [hcc]
          exact g
        have snoc : ∀ (gs : Fs) (i n : Nat), (nums gs)[i]? = some n → (conts gs).take (i + 1) = (conts gs).take i ++ [cAt gs (shPath n)] := by
          intro gs i n hn
          refine take_snoc ?_
          unfold conts
          rw [List.getElem?_map, hn]
          rfl
        refine ⟨_, rfl, b, gs, rfl, m4.dK hB, hog, fun H5 l5 m5 n5 e5 => ?_⟩
        refine ⟨l5, rfl, ⟨_, SqL.of e5⟩, fun S hS => ?_⟩
        have m45 := m4.trans m5
        refine lc_it (walk_list (xs := (nums gs).map nV)) (fun i H' => Mod T [] H5 H' ∧ H' S = some (.lst (((conts gs).take i).map V.str))) ⟨Mod.new hS, upd_same⟩ (fun i H' _ hp => hp.1.sql (SqL.of e5)) (fun i x H6 H7 hi hp hy => ?_) (fun H6 hp => ?_)
        · obtain ⟨m, e⟩ := hp
          obtain ⟨rfl, hx⟩ := hy
          obtain ⟨n, hn, rfl⟩ := Option.map_eq_some_iff.mp ((List.getElem?_map (f := nV) ▸ hx : _))
          obtain ⟨t1, t2, g⟩ := turn gs b _ i n hog ((m45.trans m).dK hB) hn
          refine ⟨rfl, yes_ (iteT ?_)⟩
          refine ⟨_, rfl, _, rfl, _, rfl, t1, SH, _, rfl, rfl, t2, b, _, rfl, g, _, e, ?_, m.own hS e pl_lst, ?_⟩
          · have h1 := conts_len gs
            have h2 := hog.len
            rw [List.length_map, List.length_take]
            exact small_lt (by omega)
          · rw [upd_same, snoc gs i n hn, List.map_append]
            rfl
        · obtain ⟨m6, eS⟩ := hp
          have eS : H6 S = some (.lst ((conts gs).map V.str)) := by
            have h1 : (conts gs).length = ((nums gs).map nV).length := by
              unfold conts
              rw [List.length_map, List.length_map]
            rw [← h1, List.take_of_length_le (Nat.le_refl _)] at eS
            exact eS
          have m56 := m45.trans m6
          have eB6 := (m5.trans m6).lst eB
          -- olds
          refine ⟨_, rfl, a, fs, rfl, m56.dK hA, hok, fun H7 l7 m7 n7 e7 => ?_⟩
          refine ⟨l7, rfl, ⟨_, SqL.of e7⟩, fun O hO => ?_⟩
          have m67 := m56.trans m7
          refine lc_it (walk_list (xs := (nums fs).map nV)) (fun i H' => Mod T [] H7 H' ∧ H' O = some (.lst (((conts fs).take i).map V.str))) ⟨Mod.new hO, upd_same⟩ (fun i H' _ hp => hp.1.sql (SqL.of e7)) (fun i x H8 H9 hi hp hy => ?_) (fun H8 hp => ?_)
          · obtain ⟨m, e⟩ := hp
            obtain ⟨rfl, hx⟩ := hy
            obtain ⟨n, hn, rfl⟩ := Option.map_eq_some_iff.mp ((List.getElem?_map (f := nV) ▸ hx : _))
            obtain ⟨t1, t2, g⟩ := turn fs a _ i n hok ((m67.trans m).dK hA) hn
            refine ⟨rfl, yes_ (iteT ?_)⟩
            refine ⟨_, rfl, _, rfl, _, rfl, t1, SH, _, rfl, rfl, t2, a, _, rfl, g, _, e, ?_, m.own hO e pl_lst, ?_⟩
            · have h1 := conts_len fs
              have h2 := hok.len
              rw [List.length_map, List.length_take]
              exact small_lt (by omega)
            · rw [upd_same, snoc fs i n hn, List.map_append]
              rfl
          · obtain ⟨m8, eO⟩ := hp
            have eO : H8 O = some (.lst ((conts fs).map V.str)) := by
              have h1 : (conts fs).length = ((nums fs).map nV).length := by
                unfold conts
                rw [List.length_map, List.length_map]
              rw [← h1, List.take_of_length_le (Nat.le_refl _)] at eO
              exact eO
            have m78 := m67.trans m8
            have eB8 := (m7.trans m8).lst eB6
            have eS8 := (m7.trans m8).lst eS
            -- fresh
            refine ⟨_, rfl, S, _, rfl, .inl (SqL.of eS8), fun F hF => ?_⟩
            have m9 : Mod T [] H8 (upd H8 F (.lst ((conts gs).map V.str))) := Mod.new hF
            have eF : (upd H8 F (.lst ((conts gs).map V.str))) F = some (.lst ((conts gs).map V.str)) := upd_same
            generalize upd H8 F (.lst ((conts gs).map V.str)) = H9 at m9 eF
            have m89 := m78.trans m9
            have nFH : H F = none := m78.old F hF
            have eO9 := m9.lst eO
            have eB9 := m9.lst eB8
            have nOF : O ≠ F := fun z => by
              rw [z, hF] at eO
              cases eO
            have nBF : B ≠ F := fun z => by
              rw [z, hF] at eB8
              cases eB8
            refine ⟨_, rfl, O, rfl, ⟨_, SqL.of eO9⟩, ?_⟩
            refine for_list (xs := (conts fs).map V.str) (fun i σ' H' => ∃ y3 y9, σ' = [some (.ref a), some (.ref b), some (.ref c), y3, some (.ref B), none, some (.ref S), some (.ref O), some (.ref F), y9] ∧ Mod T [] H H' ∧ H' F = some (.lst ((remAll (conts gs) ((conts fs).take i)).map V.str)) ∧ H' O = some (.lst ((conts fs).map V.str)) ∧ H' B = some (.lst []))
              ⟨_, none, rfl, m89, eF, eO9, eB9⟩ (fun i σ' H' _ ⟨_, _, _, _, _, e, _⟩ => SqL.of e) (fun i x σ' H' hx ⟨y3, y9, es, m, e1, e2, e3⟩ => ?_) (fun σ' H' ⟨y3, y9, es, m, e1, e2, e3⟩ => ?_)
            · subst es
              obtain ⟨cc, hcc, rfl⟩ := Option.map_eq_some_iff.mp ((List.getElem?_map (f := V.str) ▸ hx : _))
              have hsn := remAll_snoc (conts gs) ((conts fs).take i) cc
              rw [← take_snoc hcc] at hsn
              rw [hsn]
              generalize remAll (conts gs) ((conts fs).take i) = fr at *
              refine ⟨_, rfl, _, rfl, F, fr.map V.str, rfl, .inl (SqL.of e1), rfl, flat_strs fr, _, rfl, ?_⟩
              rw [inV_strs]
              refine ite2 (fun hn => ?_) (fun hn => ?_)
              · have hn : cc ∈ fr := of_decide_eq_true hn
                refine ⟨.ref F, rfl, .inl ⟨rfl, _, SqL.of e1⟩, _, rfl, F, fr, cc, rfl, rfl, e1, hn, ?_⟩
                refine ⟨y3, _, rfl, m.own nFH e1 pl_lst, upd_same, ?_, ?_⟩
                · rw [upd_ne nOF]
                  exact e2
                · rw [upd_ne nBF]
                  exact e3
              · have hn : cc ∉ fr := fun z => hn (decide_eq_true z)
                rw [List.erase_of_not_mem hn]
                exact ⟨y3, _, rfl, m, e1, e2, e3⟩
            · subst es
              have e1 : H' F = some (.lst ((remAll (conts gs) (conts fs)).map V.str)) := by
                rw [List.length_map, List.take_of_length_le (Nat.le_refl _)] at e1
                exact e1
              obtain ⟨ndF, inF⟩ := cut_fresh hok.nd hog.nd hcut
              have lenF := Nat.le_trans (remAll_len (conts gs) (conts fs)) (conts_len gs)
              have hgl := hog.len
              generalize remAll (conts gs) (conts fs) = fr at *
              -- the answer
              refine ⟨_, rfl, Nat.zero_le _, fun Z hZ => ?_⟩
              have mZ : Mod T [] H' (upd H' Z (.lst [])) := Mod.new hZ
              have eZ : (upd H' Z (.lst [])) Z = some (.lst []) := upd_same
              generalize upd H' Z (.lst []) = H10 at mZ eZ
              refine eq_nil (ws := []) (mZ.lst e3) eZ (fun x hx => by cases hx) ⟨_, rfl, ?_⟩
              refine iteT ?_
              refine ⟨_, rfl, F, _, rfl, .inl (SqL.of (mZ.lst e1)), _, rfl, F, fr, rfl, SqL.of (mZ.lst e1), ndF, by omega, _, _, rfl, rfl, ?_⟩
              refine ⟨_, rfl, ?_⟩
              rw [List.length_map]
              refine ite2 (fun _ => ?_) (fun h => (h (decide_eq_true rfl)).elim)
              refine ⟨_, rfl, F, rfl, ⟨_, SqL.of (mZ.lst e1)⟩, fun Y hY => ?_⟩
              refine lc_it (walk_list (xs := fr.map V.str)) (fun i H' => Mod T [] H10 H' ∧ H' Y = some (.lst [])) ⟨Mod.new hY, upd_same⟩ (fun i H' _ hp => hp.1.sql (SqL.of (mZ.lst e1))) (fun i x H11 H12 hi hp hy => ?_) (fun H11 hp => ?_)
              · obtain ⟨mm, ee⟩ := hp
                obtain ⟨rfl, hx⟩ := hy
                obtain ⟨cc, hcc, rfl⟩ := Option.map_eq_some_iff.mp ((List.getElem?_map (f := V.str) ▸ hx : _))
                refine ⟨rfl, ?_⟩
                refine ⟨_, rfl, _, rfl, c, cs.map V.str, rfl, .inl (SqL.of (((m.trans mZ).trans mm).lst hC)), rfl, flat_strs cs, _, rfl, ?_⟩
                rw [inV_strs, decide_eq_true (inF cc (List.mem_of_getElem? hcc))]
                exact iteF ⟨mm, ee⟩
              · obtain ⟨mm, ee⟩ := hp
                refine ⟨Nat.zero_le _, fun Z2 hZ2 => ?_⟩
                have mZ2 : Mod T [] H11 (upd H11 Z2 (.lst [])) := Mod.new hZ2
                have eZ2 : (upd H11 Z2 (.lst [])) Z2 = some (.lst []) := upd_same
                generalize upd H11 Z2 (.lst []) = H13 at mZ2 eZ2
                refine eq_nil (ws := []) (mZ2.lst ee) eZ2 (fun x hx => by cases hx) ?_
                exact q _ (((m.trans mZ).trans mm).trans mZ2)
end Pw

set_option maxHeartbeats 4000000
namespace Pw
open PySem PySem.Spec PyProof.Rows L2 LamX
variable {P : Program} {w : World} {K : PySem.W.Frag} {mg : Str → Option Value} {base : Heap} {T : List (Addr × Str)}
def rGetL : V → V → Hp → VK → Prop := fun o i H Q => ∃ (p : Addr) (xs : List V) (j : Nat) (v : V), o = .ref p ∧ i = .int (j : Nat) ∧ H p = some (.lst xs) ∧ xs[j]? = some v ∧ Q v H
theorem get_list {X : Cx} : PGet X rGetL := by
  intro pins s σ H o i ov iv Q I ro ri h
  obtain ⟨p, xs, j, v, rfl, rfl, hp, hj, q⟩ := h
  cases ro
  obtain ⟨t, rfl⟩ := ri
  obtain ⟨its, r, pl, hz⟩ := I.list (SqL.of (K := X.K) hp)
  obtain ⟨w, ew, rw'⟩ := r.get hj
  have hn := line63
  have hl := r.length
  have hjl := (List.getElem?_eq_some_iff.mp hj).1
  exact wpAny_getItem_list pl.isList (by omega) (by omega) (x := w) (by simpa using ew) ⟨v, H, I, rw', q⟩
/-- the bag at b, its cells at l -/
structure BagAt (H : Hp) (b l : Addr) : Prop where
  ex : ∃ (a s c : Int) (cells : List Int), H b = some (.lst [.int a, .int s, .int c, .ref l]) ∧ H l = some (.lst (cells.map V.int)) ∧ 0 ≤ a ∧ 0 ≤ s ∧ s < 2147483647 ∧ 0 ≤ c ∧ cells.length ≤ 63 ∧ ∀ x ∈ cells, 0 ≤ x
section
variable {H H1 : Hp} {b l p : Addr} {o : HO}
theorem BagAt.mod (x : BagAt H b l) (m : Mod T [] H H1) : BagAt H1 b l := by
  obtain ⟨a, s, c, cells, h1, h2, r⟩ := x.ex
  exact ⟨a, s, c, cells, m.lst h1, m.lst h2, r⟩
theorem BagAt.is (x : BagAt H b l) : ∃ xs, H b = some (.lst xs) := by
  obtain ⟨a, s, c, cells, h1, _⟩ := x.ex
  exact ⟨_, h1⟩
theorem BagAt.new (x : BagAt H b l) (h : H p = none) : p ≠ b := fun z => by
  obtain ⟨xs, e⟩ := x.is
  rw [z, e] at h
  cases h
theorem BagAt.new2 (x : BagAt H b l) (h : H p = none) : p ≠ l := fun z => by
  obtain ⟨a, s, c, cells, h1, h2, r⟩ := x.ex
  rw [z, h2] at h
  cases h
theorem BagAt.upd (x : BagAt H b l) (h1 : p ≠ b) (h2 : p ≠ l) : BagAt (upd H p o) b l := by
  obtain ⟨a, s, c, cells, e1, e2, r⟩ := x.ex
  exact ⟨a, s, c, cells, by rw [upd_ne (Ne.symm h1)]; exact e1, by rw [upd_ne (Ne.symm h2)]; exact e2, r⟩
/-- an object that is neither is written -/
theorem BagAt.own (x : BagAt H1 b l) (x0 : BagAt H b l) (h : H p = none) : BagAt (L2.upd H1 p o) b l := x.upd (x0.new h) (x0.new2 h)
end
/-- what stands beside the bag -/
theorem Mod.tup1 {H H1 : Hp} {b l p : Addr} {xs : List V} (m : Mod T [b] H H1) (x : BagAt H b l) (e : H p = some (.tup xs)) : H1 p = some (.tup xs) := by
  obtain ⟨ys, hy⟩ := x.is
  exact m.keep p _ (fun z => by rw [List.mem_singleton.mp z, hy] at e; cases e) noT_tup e
theorem Mod.dK1 {H H1 : Hp} {b l p : Addr} {xs : List (Key × V)} (m : Mod T [b] H H1) (x : BagAt H b l) (e : H p = some (.dK xs)) : H1 p = some (.dK xs) := by
  obtain ⟨ys, hy⟩ := x.is
  exact m.keep p _ (fun z => by rw [List.mem_singleton.mp z, hy] at e; cases e) noT_dK e
theorem Mod.frz1 {H H1 : Hp} {b l p : Addr} {ob : Obj} {u : HO} (m : Mod T [b] H H1) (x : BagAt H b l) (e : H p = some (.frz ob u)) : H1 p = some (.frz ob u) := by
  obtain ⟨ys, hy⟩ := x.is
  exact m.keep p _ (fun z => by rw [List.mem_singleton.mp z, hy] at e; cases e) noT_frz e
theorem Mod.lst1 {H H1 : Hp} {b p : Addr} {xs : List V} (m : Mod T [b] H H1) (h : p ≠ b) (e : H p = some (.lst xs)) : H1 p = some (.lst xs) := m.keep p _ (fun z => h (List.mem_singleton.mp z)) noT_lst e
def spBag (T : List (Addr × Str)) (K : PySem.W.Frag) : Sp := fun vs H Q _ => ∃ (a : Addr) (ns : List Int), vs = [.ref a] ∧ SqL K H a (ns.map V.int) ∧ ns.length ≤ 63 ∧ ∀ H' p l, Mod T [] H H' → H p = none → BagAt H' p l → Q (.ref p) H'
theorem sc_bag : FnScope ["_law_script", "_law_cell"] ["_law_script"] (defScope s_law_bag) := ⟨rfl, rfl, rfl, by decide +kernel, rfl, by decide +kernel, by decide +kernel⟩
theorem ints_to (ns : List Int) (m : Nat) : cutV (ns.map V.int) none (some (m : Int)) = (ns.take m).map V.int := by
  unfold cutV
  rw [HT.sIx_none, HT.sIx_nat]
  rw [Nat.sub_zero, List.drop_zero, List.length_map, List.map_take]
  rcases Nat.le_total m ns.length with h | h
  · rw [Nat.min_eq_left h]
  · rw [Nat.min_eq_right h, List.take_of_length_le (by rw [List.length_map]; exact Nat.le_refl _), List.take_of_length_le (by rw [List.length_map]; exact h)]
theorem ints_from (ns : List Int) (m : Nat) : cutV (ns.map V.int) (some (m : Int)) none = (ns.drop m).map V.int := by
  unfold cutV
  rw [HT.sIx_none, HT.sIx_nat, List.length_map, List.map_drop]
  rcases Nat.le_total m ns.length with h | h
  · rw [Nat.min_eq_left h, List.take_of_length_le (by rw [List.length_drop, List.length_map]; exact Nat.le_refl _)]
  · rw [Nat.min_eq_right h, Nat.sub_self, List.take_zero, List.drop_of_length_le (by rw [List.length_map]; exact h)]
theorem ok_bag (D : PwDef K mg "_law_bag" s_law_bag) (mabs : mg "abs" = none) : Cal P w K mg base 1 "_law_bag" (spBag T K) [] := by
  refine cal_of D sc_bag (fun _ _ _ _ _ _ us hl => match us, hl with | [_], _ => rfl) (fun vs H Q E h => ?_) (fun f cdv A outer s H vs Q E hr h => ?_)
  · obtain ⟨a, ns, rfl, _⟩ := h
    rfl
  · obtain ⟨a, ns, rfl, hA, hlen, q⟩ := h
    refine ⟨_, pss_one (ps_ret (pe_lst (pa_cons pe_int (pa_cons pe_int (pa_cons pe_int (pa_cons
      (pe_lc (own := [("_law_cell", 1)]) (g := gName 1) (by rfl) sc_bag.nd (pi_list (pe_slice sl_list (pv 0) po_none (po_some pe_int))) (blkOk_by (own := [("_law_cell", 1)]) (N := ["_law_script", "_law_cell"]) (sc := defScope s_law_bag) (by decide +kernel)) (fun _ _ _ _ _ => pg_name (i := 1) sc_bag.nd rfl (Or.inl rfl))
        (fun _ _ _ _ _ => pts_nil) (fun _ _ _ _ _ => pe_callB call_abs (by rfl) mabs (by decide +kernel) (pa_cons (pv 1) pa_nil))) pa_nil)))))), ?_⟩
    refine ⟨_, rfl, ((63 : Nat) : Int), rfl, a, ns.map V.int, rfl, hA, fun l hl => ?_⟩
    rw [ints_to]
    have m0 : Mod T [] H (upd H l (.lst ((ns.take 63).map V.int))) := Mod.new hl
    have e0 : (upd H l (.lst ((ns.take 63).map V.int))) l = some (.lst ((ns.take 63).map V.int)) := upd_same
    generalize upd H l (.lst ((ns.take 63).map V.int)) = H0 at m0 e0
    refine ⟨l, rfl, ⟨_, SqL.of e0⟩, fun B hB => ?_⟩
    refine lc_it (walk_list (xs := (ns.take 63).map V.int)) (fun i H' => Mod T [] H0 H' ∧ ∃ cs : List Int, H' B = some (.lst (cs.map V.int)) ∧ cs.length ≤ i ∧ ∀ x ∈ cs, 0 ≤ x) ⟨Mod.new hB, [], upd_same, Nat.zero_le _, fun x hx => by cases hx⟩ (fun i H' _ hp => hp.1.sql (SqL.of e0)) (fun i x H1 H2 hi hp hy => ?_) (fun H1 hp => ?_)
    · obtain ⟨m, cs, e, hl1, hl2⟩ := hp
      obtain ⟨rfl, hx⟩ := hy
      obtain ⟨n, hn, rfl⟩ := Option.map_eq_some_iff.mp ((List.getElem?_map (f := V.int) ▸ hx : _))
      refine ⟨rfl, yes_ (iteT ?_)⟩
      rw [List.length_map, List.length_take] at hi
      refine ⟨_, rfl, n, rfl, _, e, by rw [List.length_map]; exact small_lt (by omega), m.own hB e pl_lst, cs ++ [if n < 0 then -n else n], ?_, ?_, ?_⟩
      · rw [upd_same, List.map_append]
        rfl
      · rw [List.length_append]
        exact Nat.succ_le_succ hl1
      · intro x hx
        rcases List.mem_append.mp hx with hx | hx
        · exact hl2 x hx
        · rw [List.mem_singleton.mp hx]
          split <;> omega
    · obtain ⟨m, cs, e, hl1, hl2⟩ := hp
      rw [List.length_map, List.length_take] at hl1
      refine ⟨(by show 4 ≤ sizeLine; decide), fun p hp => ?_⟩
      have mm := m0.trans m
      refine q _ p B (mm.trans (Mod.new hp)) (mm.old p hp) ⟨0, 1234567891, 0, cs, upd_same, ?_, by omega, by omega, by omega, by omega, ?_, hl2⟩
      · exact (Mod.new (T := T) (S := []) hp).lst e
      · omega
def spTake (T : List (Addr × Str)) : Sp := fun vs H Q _ => ∃ (b l : Addr) (m : Nat), vs = [.ref b, .int (m : Nat)] ∧ 0 < m ∧ m < 1000000 ∧ BagAt H b l ∧ ∀ (H' : Hp) (v : Nat), Mod T [b] H H' → BagAt H' b l → v < m → Q (.int (v : Nat)) H'
theorem sc_take : FnScope ["_law_bag_here", "_law_many", "_law_cell", "_law_stirred", "_law_value", "_law_begin", "_law_second"] ["_law_bag_here", "_law_many"] (defScope s_law_take) := ⟨rfl, rfl, rfl, by decide +kernel, rfl, by decide +kernel, by decide +kernel⟩
theorem ok_take (D : PwDef K mg "_law_take" s_law_take) (mi : mg "int" = none) : Cal P w K mg base 1 "_law_take" (spTake T) [] := by
  refine cal_of D sc_take (fun _ _ _ _ _ _ us hl => match us, hl with | [_, _], _ => rfl) (fun vs H Q E h => ?_) (fun f cdv A outer s H vs Q E hr h => ?_)
  · obtain ⟨b, l, m, rfl, _⟩ := h
    rfl
  · obtain ⟨b, l, m, rfl, h0, hm, hb, q⟩ := h
    refine ⟨_, C8.pss_cut (ps_if (pt_cmpR op_eq (pe_ix ix_list (pv 0) pe_int (fun _ _ => rfl)) pe_int (nomark _))
        (pss_cons (ps_set (i := 2) sc_take.nd rfl (.inl rfl) (pe_ix ix_list (pe_op op_cat (pe_slice sl_list (pe_ix ix_list (pv 0) pe_int (fun _ _ => rfl)) (po_some (pe_ix ix_list (pv 0) pe_int (fun _ _ => rfl))) po_none) (pe_lst (pa_cons pe_int pa_nil))) pe_int (fun _ _ => rfl)))
        (pss_cons (ps_augS (pv 0) pe_int get_list pe_int ip_add set_list)
        (C8.pss_cut (ps_if (pt_cmpR op_ge (pv 2) (pe_op op_pow pe_int pe_int) (nomark _)) (pss_one (ps_asg (pv 2) (pg_sub (pv 0) pe_int set_list))) pss_nil)
        (pss_cons (ps_set (i := 3) sc_take.nd rfl (.inl rfl) (pe_op op_add (pe_op op_add (pe_op op_mul (pe_ix ix_list (pv 0) pe_int (fun _ _ => rfl)) pe_int) (pe_op op_mod (pe_callTy call_int1 (by rfl) mi (by decide +kernel) (pa_cons (pv 2) pa_nil)) pe_int)) (pe_op op_mul pe_int (pe_ix ix_list (pv 0) pe_int (fun _ _ => rfl)))))
        (pss_one (ps_asg (pe_op op_mod (pe_callTy call_int1 (by rfl) mi (by decide +kernel) (pa_cons (pv 3) pa_nil)) pe_int) (pg_sub (pv 0) pe_int set_list))))))) pss_nil)
      (pss_cons (ps_if (pt_cmpR op_gt (pe_ix ix_list (pv 0) pe_int (fun _ _ => rfl)) pe_int (nomark _))
        (pss_cons (ps_set (i := 4) sc_take.nd rfl (.inl rfl) (pe_op op_mod (pe_callTy call_int1 (by rfl) mi (by decide +kernel) (pa_cons (pe_ix ix_list (pv 0) pe_int (fun _ _ => rfl)) pa_nil)) (pv 1)))
        (pss_cons (ps_asg (pe_op op_fdiv (pe_callTy call_int1 (by rfl) mi (by decide +kernel) (pa_cons (pe_ix ix_list (pv 0) pe_int (fun _ _ => rfl)) pa_nil)) (pv 1)) (pg_sub (pv 0) pe_int set_list))
        (pss_one (ps_ret (pv 4))))) pss_nil)
      (pss_cons (ps_set (i := 5) sc_take.nd rfl (.inl rfl) (pe_op op_mod (pe_callTy call_int1 (by rfl) mi (by decide +kernel) (pa_cons (pe_op op_mul (pe_op op_add (pe_ix ix_list (pv 0) pe_int (fun _ _ => rfl)) pe_int) pe_int) pa_nil)) pe_int))
      (pss_cons (ps_set (i := 6) sc_take.nd rfl (.inl rfl) (pe_op op_mod (pe_callTy call_int1 (by rfl) mi (by decide +kernel) (pa_cons (pe_op op_mul (pe_op op_mod (pe_callTy call_int1 (by rfl) mi (by decide +kernel) (pa_cons (pe_op op_mul (pv 5) (pv 5)) pa_nil)) pe_int) pe_int) pa_nil)) pe_int))
      (pss_one (ps_ret (pe_op op_mod (pe_callTy call_int1 (by rfl) mi (by decide +kernel) (pa_cons (pe_op op_fdiv (pv 6) pe_int) pa_nil)) (pv 1))))))), ?_⟩
    obtain ⟨a, s, c, cells, eb, el, a0, s0, s1, c0, cl, cp⟩ := hb.ex
    have lb : l ≠ b := fun z => by
      rw [z, eb] at el
      have el := (Option.some.inj el)
      injection el with el
      match cells, el with
      | [], el => cases el
      | [_], el => cases el
      | [_, _], el => cases el
      | [_, _, _], el => cases el
      | _ :: _ :: _ :: y :: _, el => injection el with _ el; injection el with _ el; injection el with _ el; injection el with el _; cases el
    refine ⟨fun σ' H' => ∃ (y2 y3 : Option V) (a s c : Int), σ' = [some (.ref b), some (.int (m : Nat)), y2, y3, none, none, none] ∧ Mod T [b] H H' ∧ H' b = some (.lst [.int a, .int s, .int c, .ref l]) ∧ 0 ≤ a ∧ 0 ≤ s ∧ s < 2147483647 ∧ 0 ≤ c, ?_, ?_⟩
    · refine ⟨_, rfl, b, _, 0, .int a, rfl, rfl, SqL.of eb, atI_nat (j := 0) rfl, rfl, _, rfl, ?_⟩
      refine ite2 (fun _ => ?_) (fun _ => ⟨none, none, a, s, c, rfl, Mod.refl H, eb, a0, s0, s1, c0⟩)
      obtain ⟨cn, rfl⟩ : ∃ cn : Nat, c = (cn : Int) := ⟨c.toNat, (Int.toNat_of_nonneg c0).symm⟩
      refine ⟨_, rfl, b, _, 3, .ref l, rfl, rfl, SqL.of eb, atI_nat (j := 3) rfl, _, rfl, b, _, 2, .int cn, rfl, rfl, SqL.of eb, atI_nat (j := 2) rfl, (cn : Int), rfl, l, cells.map V.int, rfl, SqL.of el, fun p1 hp1 => ?_⟩
      rw [ints_from]
      have m1 : Mod T [] H (upd H p1 (.lst ((cells.drop cn).map V.int))) := Mod.new hp1
      have e1 : (upd H p1 (.lst ((cells.drop cn).map V.int))) p1 = some (.lst ((cells.drop cn).map V.int)) := upd_same
      generalize upd H p1 (.lst ((cells.drop cn).map V.int)) = H1 at m1 e1
      refine ⟨(by show 1 ≤ sizeLine; decide), fun p2 hp2 => ?_⟩
      have m2 : Mod T [] H1 (upd H1 p2 (.lst [.int 0])) := Mod.new hp2
      have e2 : (upd H1 p2 (.lst [.int 0])) p2 = some (.lst [.int 0]) := upd_same
      generalize upd H1 p2 (.lst [.int 0]) = H2 at m2 e2
      refine ⟨p1, p2, _, _, rfl, rfl, m2.lst e1, e2, ?_, fun p3 hp3 => ?_⟩
      · rw [List.length_map, List.length_drop]
        exact small_sz (by show _ + 1 ≤ _; omega)
      have m3 : Mod T [] H2 (upd H2 p3 (.lst ((cells.drop cn).map V.int ++ [.int 0]))) := Mod.new hp3
      have e3 : (upd H2 p3 (.lst ((cells.drop cn).map V.int ++ [.int 0]))) p3 = some (.lst ((cells.drop cn).map V.int ++ [.int 0])) := upd_same
      generalize upd H2 p3 (.lst ((cells.drop cn).map V.int ++ [.int 0])) = H3 at m3 e3
      obtain ⟨x, hx, x0⟩ : ∃ x : Int, ((cells.drop cn).map V.int ++ [V.int 0])[0]? = some (.int x) ∧ 0 ≤ x := by
        cases z : cells.drop cn with
        | nil => exact ⟨0, rfl, by omega⟩
        | cons y r => exact ⟨y, rfl, cp y (List.mem_of_mem_drop (by rw [z]; exact List.mem_cons_self))⟩
      refine ⟨p3, _, 0, .int x, rfl, rfl, SqL.of e3, atI_nat (j := 0) hx, ?_⟩
      have mm := (m1.trans m2).trans m3
      have eb3 := mm.lst eb
      -- bag[2] += 1
      refine ⟨_, rfl, b, _, 2, .int cn, rfl, rfl, eb3, rfl, _, _, rfl, rfl, b, _, 2, 2, rfl, rfl, eb3, rfl, ?_⟩
      have m4 : Mod T [b] H (upd H3 b (.lst ([V.int a, .int s, .int cn, .ref l].set 2 (.int ((fun i j : Int => i + j) cn 1))))) := mm.any.trans (Mod.set eb3 pl_lst (by simp))
      have e4 : (upd H3 b (.lst ([V.int a, .int s, .int cn, .ref l].set 2 (.int ((fun i j : Int => i + j) cn 1))))) b = some (.lst [.int a, .int s, .int (cn + 1), .ref l]) := upd_same
      generalize upd H3 b (.lst ([V.int a, .int s, .int cn, .ref l].set 2 (.int ((fun i j : Int => i + j) cn 1)))) = H4 at m4 e4
      refine ⟨fun σ' H' => ∃ a : Int, σ' = [some (.ref b), some (.int (m : Nat)), some (.int x), none, none, none, none] ∧ Mod T [b] H H' ∧ H' b = some (.lst [.int a, .int s, .int (cn + 1), .ref l]) ∧ 0 ≤ a, ?_, ?_⟩
      · refine ⟨_, rfl, 10, 18, rfl, rfl, ⟨by decide, by decide, by decide⟩, _, _, rfl, rfl, _, rfl, ?_⟩
        refine ite2 (fun _ => ?_) (fun _ => ⟨a, rfl, m4, e4, a0⟩)
        refine ⟨_, rfl, _, rfl, b, _, 0, 0, rfl, rfl, e4, rfl, ?_⟩
        exact ⟨x, rfl, m4.trans (Mod.set e4 pl_lst (by simp)), upd_same, x0⟩
      · rintro σ' H' ⟨a', rfl, m5, e5, a0'⟩
        refine ⟨_, rfl, b, _, 1, .int s, rfl, rfl, SqL.of e5, atI_nat (j := 1) rfl, _, _, rfl, rfl, .inr ⟨by decide, by decide⟩, ?_⟩
        refine ⟨_, rfl, .inl ⟨_, rfl, _, _, rfl, rfl, (by show (0 : Int) < 2147483647; decide), _, _, rfl, rfl, ?_⟩⟩
        refine ⟨_, rfl, b, _, 2, .int (cn + 1), rfl, rfl, SqL.of e5, atI_nat (j := 2) rfl, _, _, rfl, rfl, .inl ⟨by decide, by decide⟩, _, _, rfl, rfl, ?_⟩
        refine ⟨_, rfl, .inl ⟨_, rfl, _, _, rfl, rfl, (by show (0 : Int) < 2147483647; decide), _, rfl, b, _, 1, 1, rfl, rfl, e5, rfl, ?_⟩⟩
        refine ⟨_, _, a', _, _, rfl, m5.trans (Mod.set e5 pl_lst (by simp)), upd_same, a0', Int.emod_nonneg _ (by decide), Int.emod_lt_of_pos _ (by decide), by omega⟩
    · rintro σ' H' ⟨y2, y3, a, s, c, rfl, m1, e1, a0, s0, s1, c0⟩
      have el1 := m1.lst1 lb el
      have m0' : (0 : Int) < (m : Nat) := by omega
      refine ⟨_, rfl, b, _, 0, .int a, rfl, rfl, SqL.of e1, atI_nat (j := 0) rfl, _, _, rfl, rfl, _, rfl, ?_⟩
      refine ite2 (fun hpos => ?_) (fun _ => ?_)
      · refine ⟨_, rfl, b, _, 0, .int a, rfl, rfl, SqL.of e1, atI_nat (j := 0) rfl, .inl ⟨_, rfl, _, rfl, _, _, rfl, rfl, m0', ?_⟩⟩
        refine ⟨_, rfl, b, _, 0, .int a, rfl, rfl, SqL.of e1, atI_nat (j := 0) rfl, .inl ⟨_, rfl, _, rfl, _, _, rfl, rfl, ⟨m0', by omega⟩, _, rfl, b, _, 0, 0, rfl, rfl, e1, rfl, ?_⟩⟩
        refine ⟨_, rfl, ?_⟩
        have hv : a % (m : Nat) = (((a % (m : Nat)).toNat : Nat) : Int) := (Int.toNat_of_nonneg (Int.emod_nonneg _ (by omega))).symm
        have hlt : (a % (m : Nat)).toNat < m := by
          have := Int.emod_lt_of_pos a m0'
          omega
        have z := q (upd H' b (.lst [.int (a / (m : Nat)), .int s, .int c, .ref l])) (a % (m : Nat)).toNat (m1.trans (Mod.set e1 pl_lst (by simp))) ⟨a / (m : Nat), s, c, cells, upd_same, ?_, Int.ediv_nonneg a0 (by omega), s0, s1, c0, cl, cp⟩ hlt
        · rw [← hv] at z
          exact z
        · rw [upd_ne lb]
          exact el1
      · refine ⟨_, rfl, b, _, 1, .int s, rfl, rfl, SqL.of e1, atI_nat (j := 1) rfl, _, _, rfl, rfl, _, _, rfl, rfl, .inr ⟨by decide, by decide⟩, .inl ⟨_, rfl, _, _, rfl, rfl, (by show (0 : Int) < 1000000007; decide), ?_⟩⟩
        have b1 := Int.emod_nonneg ((s + 1) * 39373) (show (1000000007 : Int) ≠ 0 by decide)
        have b2 := Int.emod_lt_of_pos ((s + 1) * 39373) (show (0 : Int) < 1000000007 by decide)
        refine ⟨_, rfl, _, rfl, _, _, rfl, rfl, .inl ⟨?_, ?_⟩, .inl ⟨_, rfl, _, _, rfl, rfl, (by show (0 : Int) < 998244353; decide), _, _, rfl, rfl, .inr ⟨by decide, by decide⟩, .inl ⟨_, rfl, _, _, rfl, rfl, (by show (0 : Int) < 998244353; decide), ?_⟩⟩⟩
        · show -(2 ^ 64) < ((s + 1) * 39373) % 1000000007
          omega
        · show ((s + 1) * 39373) % 1000000007 < 2 ^ 64
          omega
        refine ⟨_, rfl, _, _, rfl, rfl, ⟨by decide, by decide⟩, .inl ⟨_, rfl, _, rfl, _, _, rfl, rfl, m0', ?_⟩⟩
        show Q (.int (_ % (m : Nat))) H'
        generalize (HDiv.hDiv (α := Int) _ 7) = z
        have hv : z % (m : Nat) = (((z % (m : Nat)).toNat : Nat) : Int) := (Int.toNat_of_nonneg (Int.emod_nonneg _ (by omega))).symm
        have hlt : (z % (m : Nat)).toNat < m := by
          have := Int.emod_lt_of_pos z m0'
          omega
        rw [hv]
        exact q H' _ m1 ⟨a, s, c, cells, e1, el1, a0, s0, s1, c0, cl, cp⟩ hlt
end Pw

set_option maxHeartbeats 4000000
namespace Pw
open PySem PySem.Spec PyProof.Rows L2 LamX
variable {P : Program} {w : World} {K : PySem.W.Frag} {mg : Str → Option Value} {base : Heap} {T : List (Addr × Str)}
def spOne (T : List (Addr × Str)) : Sp := fun vs H Q _ => ∃ (b l t : Addr) (xs : List V), vs = [.ref b, .ref t] ∧ BagAt H b l ∧ H t = some (.lst xs) ∧ t ≠ b ∧ 0 < xs.length ∧ xs.length < 1000000 ∧ ∀ (H' : Hp) (x : V), Mod T [b] H H' → BagAt H' b l → x ∈ xs → Q x H'
theorem sc_one : FnScope ["_law_bag_here", "_law_things"] ["_law_bag_here", "_law_things"] (defScope s_law_one) := ⟨rfl, rfl, rfl, by decide +kernel, rfl, by decide +kernel, by decide +kernel⟩
theorem ok_one (D : PwDef K mg "_law_one" s_law_one) (cT : Cal P w K mg base 1 "_law_take" (spTake T) []) (ml : mg "len" = none) : Cal P w K mg base 2 "_law_one" (spOne T) [] := by
  refine cal_of D sc_one (fun _ _ _ _ _ _ us hl => match us, hl with | [_, _], _ => rfl) (fun vs H Q E h => ?_) (fun f cdv A outer s H vs Q E hr h => ?_)
  · obtain ⟨b, l, t, xs, rfl, _⟩ := h
    rfl
  · obtain ⟨b, l, t, xs, rfl, hb, ht, nt, h0, h1, q⟩ := h
    refine ⟨_, pss_one (ps_ret (pe_ix ix_list (pv 1) (C8.pe_c cT hr (by decide) rfl (pa_cons (pv 0) (pa_cons (pe_callB call_len_seq (by rfl) ml PySem.boot_len (pa_cons (pv 1) pa_nil)) pa_nil))) (fun _ _ => rfl))), ?_⟩
    refine ⟨_, rfl, _, rfl, _, rfl, t, xs, rfl, .inl (SqL.of ht), b, l, xs.length, rfl, h0, h1, hb, fun H' v m hb' hv => ?_⟩
    have hx : xs[v]? = some xs[v] := by simp [hv]
    exact ⟨t, xs, _, _, rfl, rfl, SqL.of (m.lst1 nt ht), atI_nat hx, q H' _ m hb' (List.mem_of_getElem? hx)⟩
def spMixed (T : List (Addr × Str)) : Sp := fun vs H Q _ => ∃ (b l t : Addr) (xs : List V), vs = [.ref b, .ref t] ∧ BagAt H b l ∧ H t = some (.lst xs) ∧ t ≠ b ∧ xs.length ≤ 1000 ∧
  ∀ (H' : Hp) (p : Addr) (ys : List V), Mod T [b] H H' → BagAt H' b l → H p = none → H' p = some (.lst ys) → ys.length = xs.length → (∀ y ∈ ys, y ∈ xs) → Q (.ref p) H'
theorem sc_mixed : FnScope ["_law_bag_here", "_law_things", "_law_found", "_law_thing"] ["_law_bag_here", "_law_things"] (defScope s_law_mixed) := ⟨rfl, rfl, rfl, by decide +kernel, rfl, by decide +kernel, by decide +kernel⟩
theorem ok_mixed (D : PwDef K mg "_law_mixed" s_law_mixed) (cT : Cal P w K mg base 1 "_law_take" (spTake T) []) (ml : mg "len" = none) : Cal P w K mg base 2 "_law_mixed" (spMixed T) [] := by
  refine cal_of D sc_mixed (fun _ _ _ _ _ _ us hl => match us, hl with | [_, _], _ => rfl) (fun vs H Q E h => ?_) (fun f cdv A outer s H vs Q E hr h => ?_)
  · obtain ⟨b, l, t, xs, rfl, _⟩ := h
    rfl
  · obtain ⟨b, l, t, xs, rfl, hb, ht, nt, h1, q⟩ := h
    refine ⟨_, pss_cons (ps_set (i := 2) sc_mixed.nd rfl (.inl rfl) (pe_lst pa_nil))
      (pss_cons (ps_for PassesOwn.never rfl (pi_list (pv 1)) (pg_name (i := 3) sc_mixed.nd rfl (.inl rfl))
        (pss_one (ps_expr (pe_bm PySem.F.plainAttrs_list PySem.F.slot_list_insert PySem.F.type_list_insert mt_insert (pv 2) (pa_cons
          (C8.pe_c cT hr (by decide) rfl (pa_cons (pv 0) (pa_cons (pe_op op_add (pe_callB call_len_seq (by rfl) ml PySem.boot_len (pa_cons (pv 2) pa_nil)) pe_int) pa_nil))) (pa_cons (pv 3) pa_nil))))))
      (pss_one (ps_ret (pv 2)))), ?_⟩
    refine ⟨Nat.zero_le _, fun fd hfd => ?_⟩
    have m0 : Mod T [] H (upd H fd (.lst [])) := Mod.new hfd
    have e0 : (upd H fd (.lst [])) fd = some (.lst []) := upd_same
    generalize upd H fd (.lst []) = H0 at m0 e0
    have hb0 := hb.mod m0
    refine ⟨_, rfl, t, rfl, ⟨_, SqL.of (m0.lst ht)⟩, ?_⟩
    refine for_list (xs := xs) (fun i σ' H' => ∃ (y : Option V) (ys : List V), σ' = [some (.ref b), some (.ref t), some (.ref fd), y] ∧ Mod T [b] H H' ∧ BagAt H' b l ∧ H' fd = some (.lst ys) ∧ ys.length = i ∧ ∀ y ∈ ys, y ∈ xs)
      ⟨none, [], rfl, m0.any, hb0, e0, rfl, fun y hy => by cases hy⟩ (fun i σ' H' _ ⟨_, _, _, m, _⟩ => SqL.of (m.lst1 nt ht)) (fun i x σ' H' hx ⟨y, ys, es, m, hb', ed, hl, hy⟩ => ?_) (fun σ' H' ⟨y, ys, es, m, hb', ed, hl, hy⟩ => ?_)
    · subst es
      have hi := (List.getElem?_eq_some_iff.mp hx).1
      refine ⟨_, rfl, .inl ⟨rfl, _, SqL.of ed⟩, _, rfl, _, rfl, fd, ys, rfl, .inl (SqL.of ed), _, _, rfl, rfl, ?_⟩
      refine ⟨b, l, ys.length + 1, rfl, by omega, by omega, hb', fun H1 v m1 hb1 hv => ?_⟩
      have ed1 := m1.lst1 (hb.new hfd) ed
      refine ⟨_, rfl, fd, ys, _, x, rfl, rfl, ed1, small_lt (by omega), by omega, by omega, ?_⟩
      refine ⟨_, ys.take v ++ [x] ++ ys.drop v, rfl, (m.trans m1).own hfd ed1 pl_lst, hb1.own hb hfd, upd_same, ?_, ?_⟩
      · simp only [List.length_append, List.length_take, List.length_drop, List.length_singleton]
        omega
      · intro z hz
        rcases List.mem_append.mp hz with hz | hz
        · rcases List.mem_append.mp hz with hz | hz
          · exact hy z (List.mem_of_mem_take hz)
          · rw [List.mem_singleton.mp hz]
            exact List.mem_of_getElem? hx
        · exact hy z (List.mem_of_mem_drop hz)
    · subst es
      exact ⟨_, rfl, q H' fd ys m hb' hfd ed hl hy⟩
end Pw

set_option maxHeartbeats 4000000
namespace Pw
open PySem PySem.Spec PyProof.Rows L2 LamX
variable {P : Program} {w : World} {K : PySem.W.Frag} {mg : Str → Option Value} {base : Heap} {T : List (Addr × Str)}
theorem len_of_sub {α : Type} [DecidableEq α] : ∀ {l m : List α}, l.Nodup → (∀ x ∈ l, x ∈ m) → l.length ≤ m.length
  | [], _, _, _ => Nat.zero_le _
  | a :: l, m, nd, h => by
    rw [List.nodup_cons] at nd
    have ha := h a List.mem_cons_self
    have ih := len_of_sub (m := m.erase a) nd.2 fun x hx => (List.mem_erase_of_ne (fun z : x = a => nd.1 (by rw [← z]; exact hx))).mpr (h x (List.mem_cons_of_mem _ hx))
    rw [List.length_erase_of_mem ha] at ih
    have := List.length_pos_of_mem ha
    rw [List.length_cons]
    omega
def VerAt (H : Hp) (t : Addr) : Prop := ∃ x y z : Nat, H t = some (.tup [.int (x : Nat), .int (y : Nat), .int (z : Nat)]) ∧ x ≤ 3 ∧ y ≤ 3 ∧ z ≤ 3
def spVers (T : List (Addr × Str)) : Sp := fun vs H Q _ => ∃ (b l : Addr), vs = [.ref b, .int ((2 : Nat) : Int)] ∧ BagAt H b l ∧
  ∀ (H' : Hp) (p : Addr) (ts : List Addr), Mod T [b] H H' → BagAt H' b l → H p = none → H' p = some (.lst (ts.map V.ref)) → ts.length ≤ 2 → (∀ t ∈ ts, VerAt H' t) → Q (.ref p) H'
theorem sc_vers : FnScope ["_law_bag_here", "_law_many", "_law_found", "_law_turn"] ["_law_bag_here", "_law_many"] (defScope s_law_versions) := ⟨rfl, rfl, rfl, by decide +kernel, rfl, by decide +kernel, by decide +kernel⟩
theorem ok_vers (D : PwDef K mg "_law_versions" s_law_versions) (cO : Cal P w K mg base 2 "_law_one" (spOne T) []) (cT : Cal P w K mg base 1 "_law_take" (spTake T) []) (mr : mg "range" = none) (ms : mg "sorted" = none) (mset : mg "set" = none) : Cal P w K mg base 3 "_law_versions" (spVers T) [] := by
  refine cal_of D sc_vers (fun _ _ _ _ _ _ us hl => match us, hl with | [_, _], _ => rfl) (fun vs H Q E h => ?_) (fun f cdv A outer s H vs Q E hr h => ?_)
  · obtain ⟨b, l, rfl, _⟩ := h
    rfl
  · obtain ⟨b, l, rfl, hb, q⟩ := h
    refine ⟨_, pss_cons (ps_set (i := 2) sc_vers.nd rfl (.inl rfl) (pe_lst pa_nil))
      (pss_cons (ps_for PassesOwn.never rfl (pi_range1 rfl mr (pa_cons (pv 1) pa_nil)) (pg_name (i := 3) sc_vers.nd rfl (.inl rfl))
        (pss_one (ps_expr (pe_bm PySem.F.plainAttrs_list PySem.F.slot_list_append PySem.F.type_list_append mt_append (pv 2) (pa_cons
          (pe_tup (pa_cons (C8.pe_c cO hr (by decide) rfl (pa_cons (pv 0) (pa_cons (pe_lst (pa_cons pe_int (pa_cons pe_int (pa_cons pe_int (pa_cons pe_int (pa_cons pe_int pa_nil)))))) pa_nil)))
            (pa_cons (C8.pe_c cT hr (by decide) rfl (pa_cons (pv 0) (pa_cons pe_int pa_nil))) (pa_cons (C8.pe_c cT hr (by decide) rfl (pa_cons (pv 0) (pa_cons pe_int pa_nil))) pa_nil)))) pa_nil)))))
      (pss_one (ps_ret (pe_callB (L2.cr_sortedT rfl) (by rfl) ms (by decide +kernel) (pa_cons (pe_callTy (L2.cr_setOfT rfl hr.units) (by rfl) mset (by decide +kernel) (pa_cons (pv 2) pa_nil)) pa_nil))))), ?_⟩
    refine ⟨Nat.zero_le _, fun fd hfd => ?_⟩
    have m0 : Mod T [] H (upd H fd (.lst [])) := Mod.new hfd
    have e0 : (upd H fd (.lst [])) fd = some (.lst []) := upd_same
    generalize upd H fd (.lst []) = H0 at m0 e0
    have nfb := hb.new hfd
    refine ⟨_, rfl, _, rfl, by decide, by decide, ?_⟩
    refine for_range (n := 2) (fun i σ' H' => ∃ (y : Option V) (ks : List (Addr × List Int)), σ' = [some (.ref b), some (.int ((2 : Nat) : Int)), some (.ref fd), y] ∧ Mod T [b] H H' ∧ BagAt H' b l ∧ H' fd = some (.lst (ks.map fun p => V.ref p.1)) ∧ ks.length = i ∧
        ∀ p ∈ ks, H' p.1 = some (.tup (p.2.map V.int)) ∧ ∃ x y z : Nat, p.2 = [(x : Int), (y : Int), (z : Int)] ∧ x ≤ 3 ∧ y ≤ 3 ∧ z ≤ 3)
      ⟨none, [], rfl, m0.any, hb.mod m0, e0, rfl, fun p hp => by cases hp⟩ (fun i σ' H' hi ⟨y, ks, es, m, hb', ed, hl, hk⟩ => ?_) (fun σ' H' ⟨y, ks, es, m, hb', ed, hl, hk⟩ => ?_)
    · subst es
      refine ⟨_, rfl, .inl ⟨rfl, _, SqL.of ed⟩, ?_⟩
      refine ⟨_, rfl, (by show 5 ≤ sizeLine; decide), fun t ht => ?_⟩
      have m1 : Mod T [] H' (upd H' t (.lst [.int 1, .int 2, .int 1, .int 0, .int 3])) := Mod.new ht
      have e1 : (upd H' t (.lst [.int 1, .int 2, .int 1, .int 0, .int 3])) t = some (.lst [.int 1, .int 2, .int 1, .int 0, .int 3]) := upd_same
      generalize upd H' t (.lst [.int 1, .int 2, .int 1, .int 0, .int 3]) = H1 at m1 e1
      have hb1 := hb'.mod m1
      refine ⟨b, l, t, _, rfl, hb1, e1, hb'.new ht, by show 0 < 5; decide, by show 5 < 1000000; decide, fun H2 x m2 hb2 hx => ?_⟩
      obtain ⟨xn, rfl, hxn⟩ : ∃ xn : Nat, x = .int (xn : Nat) ∧ xn ≤ 3 := by
        simp only [List.mem_cons, List.not_mem_nil, or_false] at hx
        rcases hx with rfl | rfl | rfl | rfl | rfl
        · exact ⟨1, rfl, by omega⟩
        · exact ⟨2, rfl, by omega⟩
        · exact ⟨1, rfl, by omega⟩
        · exact ⟨0, rfl, by omega⟩
        · exact ⟨3, rfl, by omega⟩
      refine ⟨_, rfl, b, l, 3, rfl, by decide, by decide, hb2, fun H3 yn m3 hb3 hyn => ?_⟩
      refine ⟨_, rfl, b, l, 2, rfl, by decide, by decide, hb3, fun H4 zn m4 hb4 hzn => ?_⟩
      refine ⟨(by show 3 ≤ sizeLine; decide), fun u hu => ?_⟩
      have m5 : Mod T [] H4 (upd H4 u (.tup [.int (xn : Nat), .int (yn : Nat), .int (zn : Nat)])) := Mod.new hu
      have e5 : (upd H4 u (.tup [.int (xn : Nat), .int (yn : Nat), .int (zn : Nat)])) u = some (.tup [.int (xn : Nat), .int (yn : Nat), .int (zn : Nat)]) := upd_same
      generalize upd H4 u (.tup [.int (xn : Nat), .int (yn : Nat), .int (zn : Nat)]) = H5 at m5 e5
      have mm : Mod T [b] H' H5 := (((m1.any.trans m2).trans m3).trans m4).trans m5.any
      have ed5 := mm.lst1 nfb ed
      have hi2 : i < 2 := hi
      refine ⟨fd, _, _, rfl, rfl, ed5, by rw [List.length_map]; exact small_lt (by omega), ?_⟩
      refine ⟨_, ks ++ [(u, [(xn : Int), (yn : Int), (zn : Int)])], rfl, (m.trans mm).own hfd ed5 pl_lst, (hb4.mod m5).own hb hfd, ?_, ?_, fun p hp => ?_⟩
      · rw [upd_same, List.map_append]
        rfl
      · rw [List.length_append, hl]
        rfl
      · rcases List.mem_append.mp hp with hp | hp
        · obtain ⟨k1, k2⟩ := hk p hp
          exact ⟨upd_tup ed5 (fun _ z => by cases z) (mm.tup1 hb' k1), k2⟩
        · rw [List.mem_singleton.mp hp]
          exact ⟨upd_tup ed5 (fun _ z => by cases z) e5, xn, yn, zn, rfl, hxn, by omega, by omega⟩
    · subst es
      have hl : ks.length = 2 := hl
      refine ⟨_, rfl, fd, ks, rfl, SqL.of ed, fun p hp => SqT.of (hk p hp).1, by omega, fun a L ha hsub hall => ?_⟩
      have m1 : Mod T [] H' (upd H' a (L2.SetTO P w a L)) := Mod.new ha
      refine ⟨a, L, 3, 4, rfl, upd_same, fun p hp => SqT.of (m1.tup (hk p (hsub p hp)).1), by decide, fun p hp => ?_, fun L' p hperm hnd hlt _ hp => ?_⟩
      · obtain ⟨_, x, y, z, e, h1, h2, h3⟩ := hk p (hsub p hp)
        rw [e]
        refine ⟨rfl, fun k hk => ?_⟩
        simp only [List.mem_cons, List.not_mem_nil, or_false] at hk
        rcases hk with rfl | rfl | rfl <;> omega
      · have m2 : Mod T [] (upd H' a (L2.SetTO P w a L)) (upd (upd H' a (L2.SetTO P w a L)) p (.lst (L'.map fun q => V.ref q.1))) := Mod.new hp
        have mm := m1.trans m2
        refine q _ p (L'.map (·.1)) (m.trans mm.any) (hb'.mod mm) (m.old p (m1.old p hp)) ?_ ?_ fun t ht => ?_
        · rw [upd_same, List.map_map]
          rfl
        · have h1 := len_of_sub (m := ks.map (·.2)) hnd fun x hx => by
            obtain ⟨y, hy, rfl⟩ := List.mem_map.mp hx
            exact List.mem_map.mpr ⟨y, hsub y (hperm.mem_iff.mp hy), rfl⟩
          rw [List.length_map, List.length_map] at h1
          rw [List.length_map]
          omega
        · obtain ⟨y, hy, rfl⟩ := List.mem_map.mp ht
          obtain ⟨k1, x1, x2, x3, e, k2⟩ := hk y (hsub y (hperm.mem_iff.mp hy))
          rw [e] at k1
          exact ⟨x1, x2, x3, mm.tup k1, k2⟩
end Pw

set_option maxHeartbeats 4000000
namespace Pw
open PySem PySem.Spec PyProof.Rows L2 LamX
variable {P : Program} {w : World} {K : PySem.W.Frag} {mg : Str → Option Value} {base : Heap} {T : List (Addr × Str)}
/-- a pair of texts -/
abbrev PairAt (H : Hp) (t : Addr) (kv : Str × Str) : Prop := H t = some (.tup [.str kv.1, .str kv.2])
structure PackAt (H : Hp) (u : Addr) : Prop where
  ex : ∃ (nm : Str) (tv tf tl : Addr) (v1 v2 v3 v4 : V) (fe : List V) (fa : List Addr) (rows : List (Str × Str)),
    H u = some (.tup [.str nm, .ref tv, v1, v2, v3, .ref tf, v4, .ref tl]) ∧ Gd 5 nm ∧ VerAt H tv ∧ H tf = some (.tup fe) ∧ fe.length ≤ 1 ∧ (∀ v ∈ fe, ∃ q r1 r2, v = .ref q ∧ H q = some (.tup [.str "f", r1, r2])) ∧
    H tl = some (.tup (fa.map V.ref)) ∧ Paired (fun t kv => PairAt H t kv) fa rows ∧ rows.length ≤ 4 ∧ ∀ kv ∈ rows, Gd 12 kv.1 ∧ Gd 30 kv.2
def RegAt (H : Hp) (r : Addr) : Prop := ∃ (tp : Addr) (te : V) (packs : List Addr), H r = some (.tup [.ref tp, te]) ∧ H tp = some (.tup (packs.map V.ref)) ∧ packs.length ≤ 6 ∧ ∀ u ∈ packs, PackAt H u
section
variable {H H1 : Hp} {b l u r q : Addr} {o v : HO}
theorem VerAt.mp (k : ∀ t xs, H t = some (.tup xs) → H1 t = some (.tup xs)) (x : VerAt H u) : VerAt H1 u := by
  obtain ⟨x, y, z, h, r⟩ := x
  exact ⟨x, y, z, k _ _ h, r⟩
theorem PackAt.mp (k : ∀ t xs, H t = some (.tup xs) → H1 t = some (.tup xs)) (x : PackAt H u) : PackAt H1 u := by
  obtain ⟨nm, tv, tf, tl, v1, v2, v3, v4, fe, fa, rows, h1, h2, h3, h4, h5, h6, h7, h8, h9⟩ := x.ex
  exact ⟨nm, tv, tf, tl, v1, v2, v3, v4, fe, fa, rows, k _ _ h1, h2, h3.mp k, k _ _ h4, h5, fun v hv => let ⟨q, r1, r2, e, h⟩ := h6 v hv; ⟨q, r1, r2, e, k _ _ h⟩, k _ _ h7, Paired.mapP h8 fun _ _ e => k _ _ e, h9⟩
theorem RegAt.mp (k : ∀ t xs, H t = some (.tup xs) → H1 t = some (.tup xs)) (x : RegAt H u) : RegAt H1 u := by
  obtain ⟨tp, te, packs, h1, h2, h3, h4⟩ := x
  exact ⟨tp, te, packs, k _ _ h1, k _ _ h2, h3, fun u hu => (h4 u hu).mp k⟩
theorem kt_mod (m : Mod T [] H H1) : ∀ t xs, H t = some (.tup xs) → H1 t = some (.tup xs) := fun _ _ e => m.tup e
theorem kt_mod1 (m : Mod T [b] H H1) (x : BagAt H b l) : ∀ t xs, H t = some (.tup xs) → H1 t = some (.tup xs) := fun _ _ e => m.tup1 x e
theorem kt_upd (h : H q = some v) (n : ∀ xs, v ≠ .tup xs) : ∀ t xs, H t = some (.tup xs) → upd H q o t = some (.tup xs) := fun _ _ e => upd_tup h n e
end
theorem gd_of {n : Nat} {s : Str} (h : s.length ≤ n) (g : s.cps.all (· < 128) = true) : Gd n s := ⟨h, fun c hc => by
  have := (Array.all_eq_true_iff_forall_mem.mp g) c (Array.mem_toList_iff.mp hc)
  simpa using this⟩
theorem gd_app {m n : Nat} {s t : Str} (a : Gd m s) (b : Gd n t) : Gd (m + n) (s ++ t) := by
  refine ⟨?_, fun c hc => ?_⟩
  · have : (s ++ t).length = s.length + t.length := by
      show (s.cps ++ t.cps).size = _
      rw [Array.size_append]
      rfl
    have h1 := a.1
    have h2 := b.1
    omega
  · have : (s ++ t).cps.toList = s.cps.toList ++ t.cps.toList := by
      show (s.cps ++ t.cps).toList = _
      rw [Array.toList_append]
    rw [this] at hc
    rcases List.mem_append.mp hc with hc | hc
    · exact a.2 c hc
    · exact b.2 c hc
theorem app_len (s t : Str) : (s ++ t).length = s.length + t.length := by
  show (s.cps ++ t.cps).size = _
  rw [Array.size_append]
  rfl
theorem strs_from (ns : List Str) (m : Nat) : cutV (ns.map V.str) (some (m : Int)) none = (ns.drop m).map V.str := by
  unfold cutV
  rw [HT.sIx_none, HT.sIx_nat, List.length_map, List.map_drop]
  rcases Nat.le_total m ns.length with h | h
  · rw [Nat.min_eq_left h, List.take_of_length_le (by rw [List.length_drop, List.length_map]; exact Nat.le_refl _)]
  · rw [Nat.min_eq_right h, Nat.sub_self, List.take_zero, List.drop_of_length_le (by rw [List.length_map]; exact h)]
abbrev nPacks : List Str := ["_law_bag_here", "_law_odd", "_law_packs", "_law_name", "_law_version", "_law_some", "_law_path", "_law_paths", "_law_files", "_law_features"]
def oddL : List Str :=
  ["", "x", "go",
   "a\nb", "x",
   "log 0\nlock store/c0",
   "entries 0\nlock -",
   "lock app 1.0.0",
   "yy"]
theorem odd_gd : ∀ s ∈ oddL, Gd 30 s := by
  have h : oddL.all (fun s => decide (s.length ≤ 30) && s.cps.all (· < 128)) = true := by decide +kernel
  intro s hs
  have := List.all_eq_true.mp h s hs
  rw [Bool.and_eq_true] at this
  exact gd_of (of_decide_eq_true this.1) this.2
def pathsOf (nm : Str) : List Str := [nm, nm ++ ("/doc" : Str), nm ++ ("-x/y" : Str), ("bin/" : Str) ++ nm]
theorem paths_gd {nm : Str} (h : Gd 5 nm) : ∀ p ∈ pathsOf nm, Gd 12 p := by
  have g1 : Gd 4 "/doc" := gd_of (by decide +kernel) (by decide +kernel)
  have g2 : Gd 4 "-x/y" := gd_of (by decide +kernel) (by decide +kernel)
  have g3 : Gd 4 "bin/" := gd_of (by decide +kernel) (by decide +kernel)
  intro p hp
  unfold pathsOf at hp
  simp only [List.mem_cons, List.not_mem_nil, or_false] at hp
  rcases hp with rfl | rfl | rfl | rfl
  · exact h.mono (by omega)
  · exact (gd_app h g1).mono (by omega)
  · exact (gd_app h g2).mono (by omega)
  · exact (gd_app g3 h).mono (by omega)
structure PSt (T : List (Addr × Str)) (b l od pk : Addr) (H H' : Hp) (n : Nat) : Prop where
  mod : Mod T [b] H H'
  bag : BagAt H' b l
  odd : H' od = some (.lst (oddL.map V.str))
  us : ∃ us : List Addr, H' pk = some (.lst (us.map V.ref)) ∧ us.length ≤ n ∧ ∀ u ∈ us, PackAt H' u
theorem PSt.step {b l od pk : Addr} {H H' H'' : Hp} {n : Nat} (x : PSt T b l od pk H H' n) (m : Mod T [b] H' H'') (hb : BagAt H'' b l) (h1 : od ≠ b) (h2 : pk ≠ b) : PSt T b l od pk H H'' n := by
  obtain ⟨us, e1, e2, e3⟩ := x.us
  exact ⟨x.mod.trans m, hb, m.lst1 h1 x.odd, us, m.lst1 h2 e1, e2, fun u hu => (e3 u hu).mp (kt_mod1 m x.bag)⟩
theorem PSt.new {b l od pk : Addr} {H H' H'' : Hp} {n : Nat} (x : PSt T b l od pk H H' n) (m : Mod T [] H' H'') : PSt T b l od pk H H'' n := by
  obtain ⟨us, e1, e2, e3⟩ := x.us
  exact ⟨x.mod.trans m.any, x.bag.mod m, m.lst x.odd, us, m.lst e1, e2, fun u hu => (e3 u hu).mp (kt_mod m)⟩
def spPacks (T : List (Addr × Str)) : Sp := fun vs H Q _ => ∃ (b l : Addr), vs = [.ref b] ∧ BagAt H b l ∧ ∀ (H' : Hp) (r : Addr), Mod T [b] H H' → BagAt H' b l → RegAt H' r → Q (.ref r) H'
theorem sc_packs : FnScope nPacks ["_law_bag_here"] (defScope s_law_small_packs) := ⟨rfl, rfl, rfl, by decide +kernel, rfl, by decide +kernel, by decide +kernel⟩
theorem ok_packs (D : PwDef K mg "_law_small_packs" s_law_small_packs) (cV : Cal P w K mg base 3 "_law_versions" (spVers T) []) (cO : Cal P w K mg base 2 "_law_one" (spOne T) []) (cT : Cal P w K mg base 1 "_law_take" (spTake T) [])
    (ms : mg "sorted" = none) (mt : mg "tuple" = none) : Cal P w K mg base 4 "_law_small_packs" (spPacks T) [] := by
  refine cal_of D sc_packs (fun _ _ _ _ _ _ us hl => match us, hl with | [_], _ => rfl) (fun vs H Q E h => ?_) (fun f cdv A outer s H vs Q E hr h => ?_)
  · obtain ⟨b, l, rfl, _⟩ := h
    rfl
  · obtain ⟨b, l, rfl, hb, q⟩ := h
    refine ⟨_, pss_cons (ps_set (i := 1) sc_packs.nd rfl (.inr rfl) (pe_lst (pa_cons pe_str (pa_cons pe_str (pa_cons pe_str (pa_cons pe_str (pa_cons pe_str (pa_cons pe_str (pa_cons pe_str (pa_cons pe_str (pa_cons pe_str pa_nil)))))))))))
      (pss_cons (ps_set (i := 2) sc_packs.nd rfl (.inl rfl) (pe_lst pa_nil))
      (pss_cons (ps_for PassesOwn.never rfl (pi_list (pe_lst (pa_cons pe_str (pa_cons pe_str (pa_cons pe_str pa_nil))))) (pg_name (i := 3) sc_packs.nd rfl (.inr rfl))
        (pss_one (ps_for PassesOwn.never rfl (pi_list (C8.pe_c cV hr (by decide) rfl (pa_cons (pv 0) (pa_cons pe_int pa_nil)))) (pg_name (i := 4) sc_packs.nd rfl (.inl rfl))
          (pss_cons (ps_set (i := 5) sc_packs.nd rfl (.inl rfl) (pe_lst (pa_cons (pv 3) (pa_cons (pe_op op_add_str (pv 3) pe_str) (pa_cons (pe_op op_add_str (pv 3) pe_str) (pa_cons (pe_op op_add_str pe_str (pv 3)) pa_nil))))))
          (pss_cons (ps_set (i := 7) sc_packs.nd rfl (.inr rfl) (pe_lc (own := [("_law_path", 6)]) (g := gName 6) (by rfl) sc_packs.nd (pi_list (pe_slice sl_list (pv 5) (po_some (pe_op op_sub pe_int (C8.pe_c cT hr (by decide) rfl (pa_cons (pv 0) (pa_cons pe_int pa_nil))))) po_none))
            (blkOk_by (own := [("_law_path", 6)]) (N := nPacks) (sc := defScope s_law_small_packs) (by decide +kernel)) (fun _ _ _ _ _ => pg_name (i := 6) sc_packs.nd rfl (Or.inl rfl))
            (fun _ _ _ _ _ => pts_one (PW.pt (pw_or (pt_cmpR op_ne (pv 6) (pv 3) (by rfl)) (pw_or1 (pt_cmpR op_eq (C8.pe_c cT hr (by decide) rfl (pa_cons (pv 0) (pa_cons pe_int pa_nil))) pe_int (by rfl)))))) (fun _ _ _ _ _ => pv 6)))
          (pss_cons (ps_set (i := 7) sc_packs.nd rfl (.inr rfl) (pe_lc (own := [("_law_path", 6)]) (g := gName 6) (by rfl) sc_packs.nd (pi_list (pv 7))
            (blkOk_by (own := [("_law_path", 6)]) (N := nPacks) (sc := defScope s_law_small_packs) (by decide +kernel)) (fun _ _ _ _ _ => pg_name (i := 6) sc_packs.nd rfl (Or.inl rfl))
            (fun _ _ _ _ _ => pts_one (PW.pt (pw_or (pt_cmpR op_ne (pv 6) (pe_op op_add_str (pv 3) pe_str) (by rfl)) (pw_or1 (pt_cmpR (notIn_k (K := K)) (pv 3) (pv 7) (by rfl)))))) (fun _ _ _ _ _ => pv 6)))
          (pss_cons (ps_setLc (i := 8) (own := [("_law_path", 6)]) (g := gName 6) (by rfl) sc_packs.nd rfl rfl (sw_true rfl rfl rfl (by decide +kernel)) (pi_list (pe_callB cr_sortedS (by rfl) ms (by decide +kernel) (pa_cons (pv 7) pa_nil)))
            (blkOk_by (own := [("_law_path", 6)]) (N := nPacks) (sc := defScope s_law_small_packs) (by decide +kernel)) (fun _ _ _ _ _ => pg_name (i := 6) sc_packs.nd rfl (Or.inl rfl))
            (fun _ _ _ _ _ => pts_nil) (fun _ _ _ _ _ => pe_tup (pa_cons (pv 6) (pa_cons (C8.pe_c cO hr (by decide) rfl (pa_cons (pv 0) (pa_cons (pv 1) pa_nil))) pa_nil))))
          (C8.pss_cut (ps_set (i := 9) sc_packs.nd rfl (.inl rfl) (pe_ifExp (pt_cmpR op_eq (C8.pe_c cT hr (by decide) rfl (pa_cons (pv 0) (pa_cons pe_int pa_nil))) pe_int (nomark _))
            (pe_tup (pa_cons (pe_tup (pa_cons pe_str (pa_cons (pe_tup pa_nil) (pa_cons (pe_tup pa_nil) pa_nil)))) pa_nil)) (pe_tup pa_nil)))
          (pss_one (ps_expr (pe_bm PySem.F.plainAttrs_list PySem.F.slot_list_append PySem.F.type_list_append mt_append (pv 2) (pa_cons
            (pe_tup (pa_cons (pv 3) (pa_cons (pv 4) (pa_cons (pe_tup pa_nil) (pa_cons (pe_tup pa_nil) (pa_cons (pe_tup pa_nil) (pa_cons (pv 9) (pa_cons (pe_tup pa_nil) (pa_cons (pe_callTy call_tuple_of (by rfl) mt (by decide +kernel) (pa_cons (pv 8) pa_nil)) pa_nil))))))))) pa_nil))))))))))))
      (pss_one (ps_ret (pe_tup (pa_cons (pe_callTy call_tuple_of (by rfl) mt (by decide +kernel) (pa_cons (pv 2) pa_nil)) (pa_cons (pe_tup pa_nil) pa_nil))))))), ?_⟩
    refine ⟨(by show 9 ≤ sizeLine; decide), fun od hod => ?_⟩
    have m0 : Mod T [] H (upd H od (.lst (oddL.map V.str))) := Mod.new hod
    have e0 : (upd H od (.lst (oddL.map V.str))) od = some (.lst (oddL.map V.str)) := upd_same
    show tSeq _ _ _ _ (upd H od (.lst (oddL.map V.str)))
    generalize upd H od (.lst (oddL.map V.str)) = H0 at m0 e0
    refine ⟨Nat.zero_le _, fun pk hpk => ?_⟩
    have m1 : Mod T [] H0 (upd H0 pk (.lst [])) := Mod.new hpk
    have e1 : (upd H0 pk (.lst [])) pk = some (.lst []) := upd_same
    generalize upd H0 pk (.lst []) = H1 at m1 e1
    have nod := hb.new hod
    have npk := hb.new (m0.old pk hpk)
    refine ⟨(by show 3 ≤ sizeLine; decide), fun nl hnl => ?_⟩
    have m2 : Mod T [] H1 (upd H1 nl (.lst [.str (Str.ofString "app"), .str (Str.ofString "b"), .str (Str.ofString "lib-x")])) := Mod.new hnl
    have e2 : (upd H1 nl (.lst [.str (Str.ofString "app"), .str (Str.ofString "b"), .str (Str.ofString "lib-x")])) nl = some (.lst [.str (Str.ofString "app"), .str (Str.ofString "b"), .str (Str.ofString "lib-x")]) := upd_same
    generalize upd H1 nl (.lst [.str (Str.ofString "app"), .str (Str.ofString "b"), .str (Str.ofString "lib-x")]) = H2 at m2 e2
    have m02 := (m0.trans m1).trans m2
    have nnl := hb.new ((m0.trans m1).old nl hnl)
    refine ⟨nl, rfl, ⟨_, SqL.of e2⟩, ?_⟩
    have names_gd : ∀ x ∈ [V.str (Str.ofString "app"), .str (Str.ofString "b"), .str (Str.ofString "lib-x")], ∃ nm, x = .str nm ∧ Gd 5 nm := by
      intro x hx
      simp only [List.mem_cons, List.not_mem_nil, or_false] at hx
      rcases hx with rfl | rfl | rfl
      · exact ⟨_, rfl, gd_of (by decide +kernel) (by decide +kernel)⟩
      · exact ⟨_, rfl, gd_of (by decide +kernel) (by decide +kernel)⟩
      · exact ⟨_, rfl, gd_of (by decide +kernel) (by decide +kernel)⟩
    have hlen3 : [V.str (Str.ofString "app"), .str (Str.ofString "b"), .str (Str.ofString "lib-x")].length = 3 := rfl
    generalize [V.str (Str.ofString "app"), .str (Str.ofString "b"), .str (Str.ofString "lib-x")] = names at e2 names_gd hlen3
    refine for_list (xs := names) (fun i σ' H' => ∃ (y3 y4 y5 y7 y8 y9 : Option V), σ' = [some (.ref b), some (.ref od), some (.ref pk), y3, y4, y5, none, y7, y8, y9] ∧ PSt T b l od pk H H' (2 * i) ∧ H' nl = some (.lst names))
      ⟨none, none, none, none, none, none, rfl, ⟨m02.any, hb.mod m02, (m1.trans m2).lst e0, [], m2.lst e1, Nat.zero_le _, fun u hu => by cases hu⟩, e2⟩ (fun i σ' H' _ ⟨_, _, _, _, _, _, _, _, x⟩ => SqL.of x) (fun i x σ' H' hx ⟨y3, y4, y5, y7, y8, y9, es, x0, en⟩ => ?_) (fun σ' H' ⟨y3, y4, y5, y7, y8, y9, es, x0, en⟩ => ?_)
    · subst es
      obtain ⟨nm, rfl, gn⟩ := names_gd x (List.mem_of_getElem? hx)
      have hi3 := (List.getElem?_eq_some_iff.mp hx).1
      rw [hlen3] at hi3
      -- the versions
      refine ⟨_, rfl, b, l, rfl, x0.bag, fun H3 vp ts m3 hb3 nvp evp tl vts => ?_⟩
      have x3 := x0.step m3 hb3 nod npk
      have nvb := x0.bag.new nvp
      refine ⟨vp, rfl, ⟨_, SqL.of evp⟩, ?_⟩
      refine for_list (xs := ts.map V.ref) (fun j σ' H' => ∃ (y4 y5 y7 y8 y9 : Option V), σ' = [some (.ref b), some (.ref od), some (.ref pk), some (.str nm), y4, y5, none, y7, y8, y9] ∧ PSt T b l od pk H H' (2 * i + j) ∧ H' nl = some (.lst names) ∧ H' vp = some (.lst (ts.map V.ref)) ∧ ∀ t ∈ ts, VerAt H' t)
        ⟨y4, y5, y7, y8, y9, rfl, x3, m3.lst1 nnl en, evp, vts⟩ (fun j σ' H' _ ⟨_, _, _, _, _, _, _, _, x, _⟩ => SqL.of x) (fun j x σ' H4 hx ⟨y4, y5, y7, y8, y9, es, x4, en4, ev4, vt4⟩ => ?_) (fun σ' H4 ⟨y4, y5, y7, y8, y9, es, x4, en4, ev4, vt4⟩ => ?_)
      · subst es
        obtain ⟨tv, htv, rfl⟩ := Option.map_eq_some_iff.mp ((List.getElem?_map (f := V.ref) ▸ hx : _))
        have vtv := vt4 tv (List.mem_of_getElem? htv)
        have hj2 : j < 2 := Nat.lt_of_lt_of_le (List.getElem?_eq_some_iff.mp htv).1 tl
        have pgd := paths_gd gn
        have ln := gn.1
        have L1 : nm.length + (Str.ofString "/doc").length ≤ sizeLine := small_sz (by
          have : (Str.ofString "/doc").length = 4 := by decide +kernel
          omega)
        have L2' : nm.length + (Str.ofString "-x/y").length ≤ sizeLine := small_sz (by
          have : (Str.ofString "-x/y").length = 4 := by decide +kernel
          omega)
        have L3 : (Str.ofString "bin/").length + nm.length ≤ sizeLine := small_sz (by
          have : (Str.ofString "bin/").length = 4 := by decide +kernel
          omega)
        -- some
        refine ⟨_, rfl, _, rfl, nm, _, rfl, rfl, L1, _, rfl, nm, _, rfl, rfl, L2', _, rfl, _, nm, rfl, rfl, L3, (by show 4 ≤ sizeLine; decide), fun so hso => ?_⟩
        have m5 : Mod T [] H4 (upd H4 so (.lst ((pathsOf nm).map V.str))) := Mod.new hso
        have e5 : (upd H4 so (.lst ((pathsOf nm).map V.str))) so = some (.lst ((pathsOf nm).map V.str)) := upd_same
        have nsb := x4.bag.new hso
        show tSeq _ _ _ _ (upd H4 so (.lst ((pathsOf nm).map V.str)))
        have lpn : (pathsOf nm).length = 4 := rfl
        generalize pathsOf nm = pn at m5 e5 pgd lpn
        generalize upd H4 so (.lst (pn.map V.str)) = H5 at m5 e5
        have x5 := x4.new m5
        -- some[1 - take:]
        refine ⟨_, rfl, _, rfl, b, l, 2, rfl, by decide, by decide, x5.bag, fun H6 v m6 hb6 hv => ?_⟩
        have ev : (1 : Int) - (v : Nat) = ((1 - v : Nat) : Int) := by omega
        refine ⟨_, _, rfl, rfl, ((1 - v : Nat) : Int), congrArg V.int ev, so, pn.map V.str, rfl, SqL.of (m6.lst1 nsb e5), fun p1 hp1 => ?_⟩
        rw [strs_from]
        have x6 := x5.step m6 hb6 nod npk
        have m7 : Mod T [] H6 (upd H6 p1 (.lst ((pn.drop (1 - v)).map V.str))) := Mod.new hp1
        have e7 : (upd H6 p1 (.lst ((pn.drop (1 - v)).map V.str))) p1 = some (.lst ((pn.drop (1 - v)).map V.str)) := upd_same
        have np1 := hb6.new hp1
        have sub1 : ∀ p ∈ pn.drop (1 - v), p ∈ pn := fun p hp => List.mem_of_mem_drop hp
        have len1 : (pn.drop (1 - v)).length ≤ 4 := by
          rw [List.length_drop]
          omega
        generalize pn.drop (1 - v) = w1 at m7 e7 sub1 len1
        generalize upd H6 p1 (.lst (w1.map V.str)) = H7 at m7 e7
        have x7 := x6.new m7
        -- paths
        refine ⟨p1, rfl, ⟨_, SqL.of e7⟩, fun B hB => ?_⟩
        have nB := x7.bag.new hB
        refine lc_it (walk_list (xs := w1.map V.str)) (fun k H' => Mod T [b] H7 H' ∧ BagAt H' b l ∧ ∃ ws : List Str, H' B = some (.lst (ws.map V.str)) ∧ ws.length ≤ k ∧ ∀ p ∈ ws, p ∈ pn) ⟨(Mod.new hB).any, (x7.bag).mod (Mod.new (T := T) hB), [], upd_same, Nat.zero_le _, fun p hp => by cases hp⟩ (fun k H' _ hp => SqL.of (hp.1.lst1 np1 e7)) (fun k x H8 H9 hk hp hy => ?_) (fun H8 hp => ?_)
        · obtain ⟨m8, hb8, ws, e8, lw, sw⟩ := hp
          obtain ⟨rfl, hx⟩ := hy
          obtain ⟨pp, hpp, rfl⟩ := Option.map_eq_some_iff.mp ((List.getElem?_map (f := V.str) ▸ hx : _))
          have hk4 : k < 4 := Nat.lt_of_lt_of_le (List.getElem?_eq_some_iff.mp hpp).1 len1
          have put1 : ∀ H', Mod T [b] H9 H' → BagAt H' b l → ∃ acc, H' B = some (.lst acc) ∧ acc.length < sizeLine ∧ (Mod T [b] H7 (upd H' B (.lst (acc ++ [.str pp]))) ∧ BagAt (upd H' B (.lst (acc ++ [.str pp]))) b l ∧ ∃ ws : List Str, (upd H' B (.lst (acc ++ [.str pp]))) B = some (.lst (ws.map V.str)) ∧ ws.length ≤ k + 1 ∧ ∀ p ∈ ws, p ∈ pn) := by
            intro H' m' hb'
            have e' := m'.lst1 nB e8
            refine ⟨_, e', by rw [List.length_map]; exact small_lt (by omega), (m8.trans m').own hB e' pl_lst, hb'.own x7.bag hB, ws ++ [pp], ?_, ?_, fun p hp => ?_⟩
            · rw [upd_same, List.map_append]
              rfl
            · rw [List.length_append]
              exact Nat.succ_le_succ lw
            · rcases List.mem_append.mp hp with hp | hp
              · exact sw p hp
              · rw [List.mem_singleton.mp hp]
                exact sub1 pp (List.mem_of_getElem? hpp)
          refine ⟨rfl, ?_⟩
          refine ⟨_, rfl, _, rfl, rfl, _, rfl, ?_⟩
          refine ite2 (fun h => iteT ?_) (fun h => ?_)
          · exact ⟨_, rfl, put1 H9 (Mod.refl _) hb8⟩
          · refine ⟨_, rfl, b, l, 2, rfl, by decide, by decide, hb8, fun H' v m' hb' hv => ?_⟩
            refine ⟨rfl, _, rfl, ?_⟩
            refine ite2 (fun h => ?_) (fun h => ?_)
            · exact ⟨_, rfl, put1 H' m' hb'⟩
            · exact ⟨m8.trans m', hb', ws, m'.lst1 nB e8, by omega, sw⟩
        · obtain ⟨m8, hb8, ws, e8, lw, sw⟩ := hp
          rw [List.length_map] at lw
          have x8 := x7.step m8 hb8 nod npk
          -- paths, again
          refine ⟨_, rfl, B, rfl, ⟨_, SqL.of e8⟩, fun B2 hB2 => ?_⟩
          refine lc_it (walk_list (xs := ws.map V.str)) (fun k H' => Mod T [] H8 H' ∧ ∃ ws2 : List Str, H' B2 = some (.lst (ws2.map V.str)) ∧ ws2.length ≤ k ∧ ∀ p ∈ ws2, p ∈ pn) ⟨Mod.new hB2, [], upd_same, Nat.zero_le _, fun p hp => by cases hp⟩ (fun k H' _ hp => hp.1.sql (SqL.of e8)) (fun k x H9 H10 hk hp hy => ?_) (fun H9 hp => ?_)
          · obtain ⟨m9, ws2, e9, lw2, sw2⟩ := hp
            obtain ⟨rfl, hx⟩ := hy
            obtain ⟨pp, hpp, rfl⟩ := Option.map_eq_some_iff.mp ((List.getElem?_map (f := V.str) ▸ hx : _))
            have hk4 : k < 4 := Nat.lt_of_lt_of_le (List.getElem?_eq_some_iff.mp hpp).1 (by omega)
            have put2 : ∃ acc, H10 B2 = some (.lst acc) ∧ acc.length < sizeLine ∧ (Mod T [] H8 (upd H10 B2 (.lst (acc ++ [.str pp]))) ∧ ∃ ws : List Str, (upd H10 B2 (.lst (acc ++ [.str pp]))) B2 = some (.lst (ws.map V.str)) ∧ ws.length ≤ k + 1 ∧ ∀ p ∈ ws, p ∈ pn) := by
              refine ⟨_, e9, by rw [List.length_map]; exact small_lt (by omega), m9.own hB2 e9 pl_lst, ws2 ++ [pp], ?_, ?_, fun p hp => ?_⟩
              · rw [upd_same, List.map_append]
                rfl
              · rw [List.length_append]
                exact Nat.succ_le_succ lw2
              · rcases List.mem_append.mp hp with hp | hp
                · exact sw2 p hp
                · rw [List.mem_singleton.mp hp]
                  exact sw pp (List.mem_of_getElem? hpp)
            refine ⟨rfl, ?_⟩
            refine ⟨_, rfl, _, rfl, nm, _, rfl, rfl, L1, rfl, _, rfl, ?_⟩
            refine ite2 (fun h => iteT ⟨_, rfl, put2⟩) (fun h => ?_)
            refine ⟨_, rfl, _, rfl, B, ws.map V.str, rfl, .inl (SqL.of (m9.lst e8)), rfl, flat_strs ws, _, rfl, ?_⟩
            refine ite2 (fun h => ⟨_, rfl, put2⟩) (fun h => ⟨m9, ws2, e9, by omega, sw2⟩)
          · obtain ⟨m9, ws2, e9, lw2, sw2⟩ := hp
            rw [List.length_map] at lw2
            have x9 := x8.new m9
            -- files
            refine ⟨_, rfl, B2, ws2, rfl, SqL.of e9, by omega, fun ys p hperm _ hp => ?_⟩
            have m10 : Mod T [] H9 (upd H9 p (.lst (ys.map V.str))) := Mod.new hp
            have e10 : (upd H9 p (.lst (ys.map V.str))) p = some (.lst (ys.map V.str)) := upd_same
            have npb := x9.bag.new hp
            have lys : ys.length ≤ 4 := by
              rw [hperm.length_eq]
              omega
            have sys : ∀ x ∈ ys, Gd 12 x := fun x hx => pgd x (sw2 x (hperm.mem_iff.mp hx))
            generalize upd H9 p (.lst (ys.map V.str)) = H10 at m10 e10
            have x10 := x9.new m10
            refine ⟨p, rfl, ⟨_, SqL.of e10⟩, fun B3 hB3 => ?_⟩
            have nB3 := x10.bag.new hB3
            refine lc_it (walk_list (xs := ys.map V.str)) (fun k H' => Mod T [b] H10 H' ∧ BagAt H' b l ∧ ∃ (fa : List Addr) (rows : List (Str × Str)), H' B3 = some (.lst (fa.map V.ref)) ∧ Paired (fun t kv => PairAt H' t kv) fa rows ∧ rows.length ≤ k ∧ ∀ kv ∈ rows, Gd 12 kv.1 ∧ Gd 30 kv.2)
              ⟨(Mod.new hB3).any, (x10.bag).mod (Mod.new (T := T) hB3), [], [], upd_same, .nil, Nat.zero_le _, fun p hp => by cases hp⟩ (fun k H' _ hp => SqL.of (hp.1.lst1 npb e10)) (fun k x H11 H12 hk hp hy => ?_) (fun H11 hp => ?_)
            · obtain ⟨m11, hb11, fa, rows, e11, pr, lr, gr⟩ := hp
              obtain ⟨rfl, hx⟩ := hy
              obtain ⟨pp, hpp, rfl⟩ := Option.map_eq_some_iff.mp ((List.getElem?_map (f := V.str) ▸ hx : _))
              have hk4 : k < 4 := Nat.lt_of_lt_of_le (List.getElem?_eq_some_iff.mp hpp).1 lys
              refine ⟨rfl, yes_ (iteT ?_)⟩
              have x11 := x10.step m11 hb11 nod npk
              refine ⟨_, rfl, _, rfl, _, rfl, b, l, od, _, rfl, hb11, x11.odd, nod, by show 0 < 9; decide, by show 9 < 1000000; decide, fun H13 z m13 hb13 hz => ?_⟩
              obtain ⟨ct, hct, rfl⟩ := List.mem_map.mp hz
              refine ⟨(by show 2 ≤ sizeLine; decide), fun u hu => ?_⟩
              have m14 : Mod T [] H13 (upd H13 u (.tup [.str pp, .str ct])) := Mod.new hu
              have e14 : (upd H13 u (.tup [.str pp, .str ct])) u = some (.tup [.str pp, .str ct]) := upd_same
              generalize upd H13 u (.tup [.str pp, .str ct]) = H14 at m14 e14
              have mm := m13.trans m14.any
              have eB := mm.lst1 nB3 e11
              have hl3 := paired_len pr
              refine ⟨_, eB, by rw [List.length_map]; exact small_lt (by omega), (m11.trans mm).own hB3 eB pl_lst, (hb13.mod m14).own x10.bag hB3, fa ++ [u], rows ++ [(pp, ct)], ?_, ?_, ?_, fun kv hkv => ?_⟩
              · rw [upd_same, List.map_append]
                rfl
              · refine paired_app (Paired.mapP pr fun t kv e => upd_tup eB (fun _ z => by cases z) (mm.tup1 hb11 e)) (.cons ?_ .nil)
                exact upd_tup eB (fun _ z => by cases z) e14
              · rw [List.length_append]
                exact Nat.succ_le_succ lr
              · rcases List.mem_append.mp hkv with hkv | hkv
                · exact gr kv hkv
                · rw [List.mem_singleton.mp hkv]
                  exact ⟨sys pp (List.mem_of_getElem? hpp), odd_gd ct hct⟩
            · obtain ⟨m11, hb11, fa, rows, e11, pr, lr, gr⟩ := hp
              rw [List.length_map] at lr
              have x11 := x10.step m11 hb11 nod npk
              -- features
              refine ⟨fun σ' H' => ∃ (tf : Addr) (fe : List V), σ' = [some (.ref b), some (.ref od), some (.ref pk), some (.str nm), some (.ref tv), some (.ref so), none, some (.ref B2), some (.ref B3), some (.ref tf)] ∧ Mod T [b] H11 H' ∧ BagAt H' b l ∧ H' tf = some (.tup fe) ∧ fe.length ≤ 1 ∧ ∀ v ∈ fe, ∃ q r1 r2, v = .ref q ∧ H' q = some (.tup [.str "f", r1, r2]), ?_, ?_⟩
              · refine ⟨_, rfl, b, l, 3, rfl, by decide, by decide, hb11, fun H12 v m12 hb12 hv => ?_⟩
                refine ⟨rfl, _, rfl, ?_⟩
                refine ite2 (fun _ => ?_) (fun _ => ?_)
                · refine ⟨Nat.zero_le _, fun a1 h1 => ?_⟩
                  have n1 : Mod T [] H12 (upd H12 a1 (.tup [])) := Mod.new h1
                  generalize upd H12 a1 (.tup []) = G1 at n1
                  refine ⟨Nat.zero_le _, fun a2 h2 => ?_⟩
                  have n2 : Mod T [] G1 (upd G1 a2 (.tup [])) := Mod.new h2
                  generalize upd G1 a2 (.tup []) = G2 at n2
                  refine ⟨(by show 3 ≤ sizeLine; decide), fun a3 h3 => ?_⟩
                  have n3 : Mod T [] G2 (upd G2 a3 (.tup [.str (Str.ofString "f"), .ref a1, .ref a2])) := Mod.new h3
                  have g3 : (upd G2 a3 (.tup [.str (Str.ofString "f"), .ref a1, .ref a2])) a3 = some (.tup [.str (Str.ofString "f"), .ref a1, .ref a2]) := upd_same
                  generalize upd G2 a3 (.tup [.str (Str.ofString "f"), .ref a1, .ref a2]) = G3 at n3 g3
                  refine ⟨(by show 1 ≤ sizeLine; decide), fun a4 h4 => ?_⟩
                  have n4 : Mod T [] G3 (upd G3 a4 (.tup [.ref a3])) := Mod.new h4
                  have nn := ((n1.trans n2).trans n3).trans n4
                  exact ⟨a4, [.ref a3], rfl, m12.trans nn.any, hb12.mod nn, upd_same, Nat.le_refl _, fun v hv => by
                    rw [List.mem_singleton.mp hv]
                    exact ⟨a3, _, _, rfl, n4.tup g3⟩⟩
                · refine ⟨Nat.zero_le _, fun a4 h4 => ?_⟩
                  have n4 : Mod T [] H12 (upd H12 a4 (.tup [])) := Mod.new h4
                  exact ⟨a4, [], rfl, m12.trans n4.any, hb12.mod n4, upd_same, Nat.zero_le _, fun v hv => by cases hv⟩
              · rintro σ' H12 ⟨tf, fe, rfl, m12, hb12, etf, lfe, hfe⟩
                have x12 := x11.step m12 hb12 nod npk
                have eB3 := m12.lst1 nB3 e11
                have pr12 : Paired (fun t kv => PairAt H12 t kv) fa rows := Paired.mapP pr fun t kv e => m12.tup1 hb11 e
                have mBag : Mod T [b] H4 H12 := (((((m5.any.trans m6).trans m7.any).trans m8).trans (m9.any.trans m10.any)).trans m11).trans m12
                have vt12 : VerAt H12 tv := vtv.mp (kt_mod1 mBag x4.bag)
                refine ⟨.ref pk, rfl, .inl ⟨rfl, ?_⟩, ?_⟩
                · obtain ⟨us, e, _⟩ := x12.us
                  exact ⟨_, SqL.of e⟩
                refine ⟨_, rfl, _, rfl, Nat.zero_le _, fun a1 h1 => ?_⟩
                have n1 : Mod T [] H12 (upd H12 a1 (.tup [])) := Mod.new h1
                generalize upd H12 a1 (.tup []) = G1 at n1
                refine ⟨Nat.zero_le _, fun a2 h2 => ?_⟩
                have n2 : Mod T [] G1 (upd G1 a2 (.tup [])) := Mod.new h2
                generalize upd G1 a2 (.tup []) = G2 at n2
                refine ⟨Nat.zero_le _, fun a3 h3 => ?_⟩
                have n3 : Mod T [] G2 (upd G2 a3 (.tup [])) := Mod.new h3
                generalize upd G2 a3 (.tup []) = G3 at n3
                refine ⟨_, rfl, Nat.zero_le _, fun a4 h4 => ?_⟩
                have n4 : Mod T [] G3 (upd G3 a4 (.tup [])) := Mod.new h4
                generalize upd G3 a4 (.tup []) = G4 at n4
                have nn := ((n1.trans n2).trans n3).trans n4
                refine ⟨_, rfl, B3, _, rfl, .inl ⟨SqL.of (nn.lst eB3), fun tl htl => ?_⟩⟩
                have n5 : Mod T [] G4 (upd G4 tl (.tup (fa.map V.ref))) := Mod.new htl
                have g5 : (upd G4 tl (.tup (fa.map V.ref))) tl = some (.tup (fa.map V.ref)) := upd_same
                generalize upd G4 tl (.tup (fa.map V.ref)) = G5 at n5 g5
                refine ⟨(by show 8 ≤ sizeLine; decide), fun u hu => ?_⟩
                have n6 : Mod T [] G5 (upd G5 u (.tup [.str nm, .ref tv, .ref a1, .ref a2, .ref a3, .ref tf, .ref a4, .ref tl])) := Mod.new hu
                have g6 : (upd G5 u (.tup [.str nm, .ref tv, .ref a1, .ref a2, .ref a3, .ref tf, .ref a4, .ref tl])) u = some (.tup [.str nm, .ref tv, .ref a1, .ref a2, .ref a3, .ref tf, .ref a4, .ref tl]) := upd_same
                generalize upd G5 u (.tup [.str nm, .ref tv, .ref a1, .ref a2, .ref a3, .ref tf, .ref a4, .ref tl]) = G6 at n6 g6
                have n16 := (nn.trans n5).trans n6
                have x16 := x12.new n16
                obtain ⟨us, e16, lus, pus⟩ := x16.us
                have packU : PackAt G6 u := ⟨nm, tv, tf, tl, .ref a1, .ref a2, .ref a3, .ref a4, fe, fa, rows, g6, gn, vt12.mp (kt_mod n16), n16.tup etf, lfe, fun v hv => let ⟨q, r1, r2, e, h⟩ := hfe v hv; ⟨q, r1, r2, e, n16.tup h⟩, n6.tup g5, Paired.mapP pr12 fun t kv e => n16.tup e, by omega, gr⟩
                refine ⟨pk, _, _, rfl, rfl, e16, by rw [List.length_map]; exact small_lt (by omega), ?_⟩
                have kt := kt_upd (o := .lst (us.map V.ref ++ [V.ref u])) e16 (fun _ z => by cases z)
                have mAll : Mod T [b] H4 G6 := mBag.trans n16.any
                have npkH : H pk = none := m0.old pk hpk
                have nlpk : nl ≠ pk := fun z => by
                  rw [z] at hnl
                  rw [e1] at hnl
                  cases hnl
                have odpk : od ≠ pk := fun z => by
                  rw [z] at e0
                  rw [hpk] at e0
                  cases e0
                have vppk : vp ≠ pk := fun z => by
                  obtain ⟨us0, e00, _⟩ := x0.us
                  rw [z, e00] at nvp
                  cases nvp
                refine ⟨_, _, _, _, _, rfl, ⟨x16.mod.own npkH e16 pl_lst, x16.bag.own hb npkH, ?_, us ++ [u], ?_, ?_, fun u' hu' => ?_⟩, ?_, ?_, fun t ht => ?_⟩
                · rw [upd_ne odpk]
                  exact x16.odd
                · rw [upd_same, List.map_append]
                  rfl
                · rw [List.length_append]
                  show us.length + 1 ≤ _
                  omega
                · rcases List.mem_append.mp hu' with h | h
                  · exact (pus u' h).mp kt
                  · rw [List.mem_singleton.mp h]
                    exact packU.mp kt
                · rw [upd_ne nlpk]
                  exact mAll.lst1 nnl en4
                · rw [upd_ne vppk]
                  exact mAll.lst1 nvb ev4
                · exact ((vt4 t ht).mp (kt_mod1 mAll x4.bag)).mp kt
      · subst es
        have hlen2 : (ts.map V.ref).length ≤ 2 := by
          rw [List.length_map]
          exact tl
        obtain ⟨us, e, l1, l2⟩ := x4.us
        exact ⟨_, _, _, _, _, _, rfl, ⟨x4.mod, x4.bag, x4.odd, us, e, by omega, l2⟩, en4⟩
    · subst es
      obtain ⟨us, e, l1, l2⟩ := x0.us
      rw [hlen3] at l1
      refine ⟨_, rfl, pk, _, rfl, .inl ⟨SqL.of e, fun tp htp => ?_⟩⟩
      have n1 : Mod T [] H' (upd H' tp (.tup (us.map V.ref))) := Mod.new htp
      have g1 : (upd H' tp (.tup (us.map V.ref))) tp = some (.tup (us.map V.ref)) := upd_same
      generalize upd H' tp (.tup (us.map V.ref)) = G1 at n1 g1
      refine ⟨Nat.zero_le _, fun te hte => ?_⟩
      have n2 : Mod T [] G1 (upd G1 te (.tup [])) := Mod.new hte
      generalize upd G1 te (.tup []) = G2 at n2
      refine ⟨(by show 2 ≤ sizeLine; decide), fun r hr => ?_⟩
      have n3 : Mod T [] G2 (upd G2 r (.tup [.ref tp, .ref te])) := Mod.new hr
      have nn := (n1.trans n2).trans n3
      exact q _ r (x0.mod.trans nn.any) (x0.bag.mod nn) ⟨tp, .ref te, us, upd_same, (n2.trans n3).tup g1, l1, fun u hu => (l2 u hu).mp (kt_mod nn)⟩
end Pw

set_option maxHeartbeats 4000000
namespace Pw
open PySem PySem.Spec PyProof.Rows L2 LamX
variable {P : Program} {w : World} {K : PySem.W.Frag} {mg : Str → Option Value} {base : Heap} {T : List (Addr × Str)}
theorem gd_empty {n : Nat} : Gd n Str.empty := gd_of (Nat.zero_le _) (by decide +kernel)
theorem gd_join {m k : Nat} {sep : Str} (hs : Gd k sep) : ∀ ys : List Str, (∀ y ∈ ys, Gd m y) → Gd ((m + k) * ys.length) (Str.join sep ys)
  | [], _ => gd_empty
  | [x], h => by
    have := h x List.mem_cons_self
    exact this.mono (by show m ≤ (m + k) * 1; omega)
  | x :: y :: r, h => by
    have ih := gd_join hs (y :: r) fun z hz => h z (List.mem_cons_of_mem _ hz)
    have hx := h x List.mem_cons_self
    have e : (m + k) * (x :: y :: r).length = (m + k) * (y :: r).length + (m + k) := by
      rw [List.length_cons, Nat.mul_succ]
    exact (gd_app (gd_app hx hs) ih).mono (by omega)
theorem gd_glued {m k n : Nat} {sep : Str} (hs : Gd k sep) (ys : List Str) (h : ∀ y ∈ ys, Gd m y) (hn : ys.length ≤ n) : Gd ((m + k) * n) (Txt.join sep ys) := by
  have e : Txt.join sep ys = Str.join sep ys := StrLaws.glued_eq_join sep ys
  rw [e]
  exact (gd_join hs ys h).mono (Nat.mul_le_mul_left _ hn)
theorem sum_le {m : Nat} : ∀ {ys : List Str}, (∀ y ∈ ys, y.length ≤ m) → (ys.map (·.length)).sum ≤ m * ys.length
  | [], _ => Nat.zero_le _
  | x :: r, h => by
    have ih := sum_le (ys := r) fun y hy => h y (List.mem_cons_of_mem _ hy)
    have hx := h x List.mem_cons_self
    rw [List.map_cons, List.sum_cons, List.length_cons, Nat.mul_succ]
    omega
theorem join_ok {m n k : Nat} {ys : List Str} {sep : Str} (h : ∀ y ∈ ys, Gd m y) (hs : sep.length ≤ k) (hn : ys.length ≤ n) (hz : m * n + n * k ≤ 16777216) : (ys.map (·.length)).sum + ys.length * sep.length ≤ 16777216 := by
  have h1 := sum_le (ys := ys) (m := m) fun y hy => (h y hy).1
  have h2 : m * ys.length ≤ m * n := Nat.mul_le_mul_left _ hn
  have h3 : ys.length * sep.length ≤ n * k := Nat.mul_le_mul hn hs
  omega
theorem gd_num {n : Nat} (h : n < 10 ^ 9) : Gd 9 (Str.ofString (toString ((n : Nat) : Int))) := by
  refine ⟨?_, fun c hc => ?_⟩
  · rw [str_len, num_txt]
    exact TL.numL_len (by decide) h
  · rw [num_txt] at hc
    have := TL.numL_digits n c hc
    omega
/-- sep.join(xs) within a comprehension -/
theorem join_k {X : Cx} {K : PySem.W.Frag} {o e : Expr} {to te : TE} {apos pos : Pos} (ho : PE X o to) (he : PE X e te) (h : X.K = K := by rfl) (hs : starEach [e] X.env = [(false, eval e X.env)] := by rfl) (hbase : attributeBase o "join" X.env (eval o X.env) = eval o X.env := by rfl) (hline : (apos.endLine == pos.line) = true := by rfl) :
    PE X (.Call (.Attribute o "join" apos) [e] [] pos) (tM1 (fun x xs H Q => ∃ a p, ∃ ys : List Str, x = .str a ∧ xs = [.ref p] ∧ (SqL K H p (ys.map V.str) ∨ SqT K H p (ys.map V.str)) ∧
      (ys.map (·.length)).sum + ys.length * a.length ≤ 16777216 ∧ Q (.str (Txt.join a ys)) H) to te) := by
  subst h
  exact pe_join ho he hs hbase hline
/-- a step of a log -/
def StepAt (H : Hp) (u : Addr) : Prop := ∃ ws : List Str, H u = some (.tup (ws.map V.str)) ∧ ws.length ≤ 3 ∧ ∀ x ∈ ws, Gd 30 x
def spLogT (T : List (Addr × Str)) : Sp := fun vs H Q _ => ∃ (g st : Addr) (us : List Addr) (lk : Str), vs = [.ref g] ∧ H g = some (.tup [.ref st, .str lk]) ∧ H st = some (.tup (us.map V.ref)) ∧ us.length ≤ 4 ∧ (∀ u ∈ us, StepAt H u) ∧ Gd 30 lk ∧
  ∀ (H' : Hp) (s : Str), Mod T [] H H' → Gd 600 s → Q (.str s) H'
theorem sc_logT : FnScope ["_law_log", "_law_lines", "_law_step"] ["_law_log"] (defScope s_law_log_text) := ⟨rfl, rfl, rfl, by decide +kernel, rfl, by decide +kernel, by decide +kernel⟩
theorem ok_logT (D : PwDef K mg "_law_log_text" s_law_log_text) (ml : mg "len" = none) (mstr : mg "str" = none) : Cal P w K mg base 1 "_law_log_text" (spLogT T) [] := by
  refine cal_of D sc_logT (fun _ _ _ _ _ _ us hl => match us, hl with | [_], _ => rfl) (fun vs H Q E h => ?_) (fun f cdv A outer s H vs Q E hr h => ?_)
  · obtain ⟨g, st, us, lk, rfl, _⟩ := h
    rfl
  · obtain ⟨g, st, us, lk, rfl, hg, hst, hl, hus, glk, q⟩ := h
    refine ⟨_, pss_cons (ps_set (i := 1) sc_logT.nd rfl (.inl rfl) (pe_op op_cat (pe_lst (pa_cons (pe_op op_add_str pe_str (pe_callTy call_str_int (by rfl) mstr (by decide +kernel) (pa_cons (pe_callB call_len_seq (by rfl) ml PySem.boot_len (pa_cons (pe_ix ix_tup (pv 0) pe_int (fun _ _ => rfl)) pa_nil)) pa_nil))) pa_nil))
        (pe_lc (own := [("_law_step", 2)]) (g := gName 2) (by rfl) sc_logT.nd (pi_tup (pe_ix ix_tup (pv 0) pe_int (fun _ _ => rfl))) (blkOk_by (own := [("_law_step", 2)]) (N := ["_law_log", "_law_lines", "_law_step"]) (sc := defScope s_law_log_text) (by decide +kernel)) (fun _ _ _ _ _ => pg_name (i := 2) sc_logT.nd rfl (Or.inl rfl))
          (fun _ _ _ _ _ => pts_nil) (fun _ _ _ _ _ => join_k (K := K) pe_str (pv 2)))))
      (pss_one (ps_ret (pe_join pe_str (pe_op op_cat (pv 1) (pe_lst (pa_cons (pe_op op_add_str pe_str (pe_ix ix_tup (pv 0) pe_int (fun _ _ => rfl))) pa_nil)))))), ?_⟩
    have l4 : (Str.ofString "log ").length = 4 := by decide +kernel
    have l5 : (Str.ofString "lock ").length = 5 := by decide +kernel
    have g4 : Gd 4 (Str.ofString "log ") := gd_of (by decide +kernel) (by decide +kernel)
    have g5 : Gd 5 (Str.ofString "lock ") := gd_of (by decide +kernel) (by decide +kernel)
    have gn := gd_num (n := us.length) (by omega)
    refine ⟨_, rfl, g, _, 0, .ref st, rfl, rfl, SqT.of hg, atI_nat (j := 0) rfl, st, _, rfl, .inr (SqT.of hst), _, rfl, ?_, _, _, rfl, rfl, ?_, (by show 1 ≤ sizeLine; decide), fun p1 hp1 => ?_⟩
    · rw [List.length_map]
      exact log2_small (by omega)
    · rw [l4, List.length_map]
      have := gn.1
      exact small_sz (by omega)
    obtain ⟨tx, htx, gtx⟩ : ∃ tx : Str, tx = Str.ofString "log " ++ Str.ofString (toString (((us.map V.ref).length : Nat) : Int)) ∧ Gd 13 tx := ⟨_, rfl, by
      rw [List.length_map]
      exact gd_app g4 gn⟩
    have m1 : Mod T [] H (upd H p1 (.lst [.str (Str.ofString "log " ++ Str.ofString (toString (((us.map V.ref).length : Nat) : Int)))])) := Mod.new hp1
    have e1 : (upd H p1 (.lst [.str (Str.ofString "log " ++ Str.ofString (toString (((us.map V.ref).length : Nat) : Int)))])) p1 = some (.lst [.str tx]) := by
      rw [htx]
      exact upd_same
    generalize upd H p1 (.lst [.str (Str.ofString "log " ++ Str.ofString (toString (((us.map V.ref).length : Nat) : Int)))]) = H1 at m1 e1
    clear htx
    refine ⟨_, rfl, g, _, 0, .ref st, rfl, rfl, SqT.of (m1.tup hg), atI_nat (j := 0) rfl, st, rfl, ⟨_, SqT.of (m1.tup hst)⟩, fun B hB => ?_⟩
    refine lc_it (walk_tup (xs := us.map V.ref)) (fun i H' => Mod T [] H1 H' ∧ ∃ ws : List Str, H' B = some (.lst (ws.map V.str)) ∧ ws.length ≤ i ∧ ∀ x ∈ ws, Gd 93 x) ⟨Mod.new hB, [], upd_same, Nat.zero_le _, fun x hx => by cases hx⟩ (fun i H' _ hp => SqT.of (hp.1.tup (m1.tup hst))) (fun i x H2 H3 hi hp hy => ?_) (fun H2 hp => ?_)
    · obtain ⟨m2, ws, e2, lw, gw⟩ := hp
      obtain ⟨rfl, hx⟩ := hy
      obtain ⟨u, hu, rfl⟩ := Option.map_eq_some_iff.mp ((List.getElem?_map (f := V.ref) ▸ hx : _))
      obtain ⟨ys, ey, ly, gy⟩ := hus u (List.mem_of_getElem? hu)
      have hi4 := (List.getElem?_eq_some_iff.mp hu).1
      refine ⟨rfl, yes_ (iteT ?_)⟩
      refine ⟨⟨_, rfl⟩, _, rfl, _, u, ys, rfl, rfl, .inr (SqT.of ((m1.trans m2).tup ey)), join_ok gy (k := 1) (by decide +kernel) ly (by decide), ?_⟩
      refine ⟨_, e2, by rw [List.length_map]; exact small_lt (by omega), m2.own hB e2 pl_lst, ws ++ [Txt.join (Str.ofString " ") ys], ?_, ?_, fun x hx => ?_⟩
      · rw [upd_same, List.map_append]
        rfl
      · rw [List.length_append]
        exact Nat.succ_le_succ lw
      · rcases List.mem_append.mp hx with hx | hx
        · exact gw x hx
        · rw [List.mem_singleton.mp hx]
          exact gd_glued (m := 30) (k := 1) (n := 3) (gd_of (by decide +kernel) (by decide +kernel)) ys gy ly
    · obtain ⟨m2, ws, e2, lw, gw⟩ := hp
      rw [List.length_map] at lw
      refine ⟨p1, B, _, _, rfl, rfl, m2.lst e1, e2, ?_, fun p2 hp2 => ?_⟩
      · rw [List.length_map]
        exact small_sz (by show 1 + _ ≤ _; omega)
      have m3 : Mod T [] H2 (upd H2 p2 (.lst ([.str tx] ++ ws.map V.str))) := Mod.new hp2
      have e3 : (upd H2 p2 (.lst ([.str tx] ++ ws.map V.str))) p2 = some (.lst ((tx :: ws).map V.str)) := upd_same
      generalize upd H2 p2 (.lst ([.str tx] ++ ws.map V.str)) = H3 at m3 e3
      have m13 := (m1.trans m2).trans m3
      refine ⟨⟨_, rfl⟩, _, rfl, _, rfl, g, _, 1, .str lk, rfl, rfl, SqT.of (m13.tup hg), atI_nat (j := 1) rfl, _, lk, rfl, rfl, ?_, (by show 1 ≤ sizeLine; decide), fun p3 hp3 => ?_⟩
      · rw [l5]
        have := glk.1
        exact small_sz (by omega)
      have g35 := gd_app g5 glk
      generalize Str.ofString "lock " ++ lk = z at g35
      have m4 : Mod T [] H3 (upd H3 p3 (.lst [.str z])) := Mod.new hp3
      have e4 : (upd H3 p3 (.lst [.str z])) p3 = some (.lst [.str z]) := upd_same
      generalize upd H3 p3 (.lst [.str z]) = H4 at m4 e4
      refine ⟨p2, p3, _, _, rfl, rfl, m4.lst e3, e4, ?_, fun p4 hp4 => ?_⟩
      · rw [List.length_map, List.length_cons]
        exact small_sz (by show _ + 1 ≤ _; omega)
      have m5 : Mod T [] H4 (upd H4 p4 (.lst ((tx :: ws).map V.str ++ [.str z]))) := Mod.new hp4
      have e5 : (upd H4 p4 (.lst ((tx :: ws).map V.str ++ [.str z]))) p4 = some (.lst ((tx :: ws ++ [z]).map V.str)) := by
        rw [upd_same, List.map_append]
        rfl
      have all93 : ∀ y ∈ tx :: ws ++ [z], Gd 93 y := by
        intro y hy
        rcases List.mem_append.mp hy with hy | hy
        · rcases List.mem_cons.mp hy with rfl | hy
          · exact gtx.mono (by omega)
          · exact gw y hy
        · rw [List.mem_singleton.mp hy]
          exact g35.mono (by omega)
      have l6 : (tx :: ws ++ [z]).length ≤ 6 := by
        rw [List.length_append, List.length_cons]
        show _ + 1 + 1 ≤ 6
        omega
      refine ⟨_, p4, _, rfl, rfl, .inl (SqL.of e5), join_ok all93 (k := 1) (by decide +kernel) l6 (by decide), ?_⟩
      exact q _ _ ((m13.trans m4).trans m5) ((gd_glued (m := 93) (k := 1) (n := 6) (gd_of (by decide +kernel) (by decide +kernel)) _ all93 l6).mono (by decide))
end Pw

set_option maxHeartbeats 4000000
namespace Pw
open PySem PySem.Spec PyProof.Rows L2 LamX
variable {P : Program} {w : World} {K : PySem.W.Frag} {mg : Str → Option Value} {base : Heap} {T : List (Addr × Str)}
theorem ixt_k {X : Cx} {K : PySem.W.Frag} (h : X.K = K := by rfl) : IxR X (rIxT K) := h ▸ ix_tup
def EntAt (H : Hp) (k : Str) (u : Addr) : Prop := ∃ (tv tf : Addr) (fs : List Str), Gd 5 k ∧ H u = some (.tup [.ref tv, .ref tf]) ∧ VerAt H tv ∧ H tf = some (.tup (fs.map V.str)) ∧ fs.length ≤ 1 ∧ ∀ x ∈ fs, Gd 1 x
def PlanAt (H : Hp) (p : Addr) (n : Nat) : Prop := ∃ kvs : List (Str × Addr), H p = some (.dK (dk V.ref kvs)) ∧ kvs.length ≤ n ∧ (kvs.map (·.1)).Nodup ∧ ∀ kv ∈ kvs, EntAt H kv.1 kv.2
theorem EntAt.mp {H H1 : Hp} {k : Str} {u : Addr} (kt : ∀ t xs, H t = some (.tup xs) → H1 t = some (.tup xs)) (x : EntAt H k u) : EntAt H1 k u := by
  obtain ⟨tv, tf, fs, h1, h2, h3, h4, r⟩ := x
  exact ⟨tv, tf, fs, h1, kt _ _ h2, h3.mp kt, kt _ _ h4, r⟩
def spPlan (T : List (Addr × Str)) : Sp := fun vs H Q _ => ∃ (b l r : Addr), vs = [.ref b, .ref r] ∧ BagAt H b l ∧ RegAt H r ∧ ∀ (H' : Hp) (p : Addr), Mod T [b] H H' → BagAt H' b l → H p = none → PlanAt H' p 6 → Q (.ref p) H'
abbrev nPlan : List Str := ["_law_bag_here", "_law_registry", "_law_found", "_law_pack", "_law_feature"]
theorem sc_plan : FnScope nPlan ["_law_bag_here", "_law_registry"] (defScope s_law_some_plan) := ⟨rfl, rfl, rfl, by decide +kernel, rfl, by decide +kernel, by decide +kernel⟩
theorem ok_plan (D : PwDef K mg "_law_some_plan" s_law_some_plan) (cM : Cal P w K mg base 2 "_law_mixed" (spMixed T) []) (cT : Cal P w K mg base 1 "_law_take" (spTake T) []) (mli : mg "list" = none) (mt : mg "tuple" = none) : Cal P w K mg base 3 "_law_some_plan" (spPlan T) [] := by
  refine cal_of D sc_plan (fun _ _ _ _ _ _ us hl => match us, hl with | [_, _], _ => rfl) (fun vs H Q E h => ?_) (fun f cdv A outer s H vs Q E hr h => ?_)
  · obtain ⟨b, l, r, rfl, _⟩ := h
    rfl
  · obtain ⟨b, l, r, rfl, hb, hreg, q⟩ := h
    refine ⟨_, pss_cons (ps_set (i := 2) sc_plan.nd rfl (.inl rfl) pe_dnewK)
      (pss_cons (ps_for PassesOwn.never rfl (pi_list (C8.pe_c cM hr (by decide) rfl (pa_cons (pv 0) (pa_cons (pe_callTy call_list_of (by rfl) mli (by decide +kernel) (pa_cons (pe_ix ix_tup (pv 1) pe_int (fun _ _ => rfl)) pa_nil)) pa_nil)))) (pg_name (i := 3) sc_plan.nd rfl (.inl rfl))
        (pss_one (ps_if (pt_cmpR op_gt (C8.pe_c cT hr (by decide) rfl (pa_cons (pv 0) (pa_cons pe_int pa_nil))) pe_int (nomark _))
          (pss_one (ps_dput (hu_of hr) (pv 2) (pe_ix ix_tup (pv 3) pe_int (fun _ _ => rfl))
            (pe_tup (pa_cons (pe_ix ix_tup (pv 3) pe_int (fun _ _ => rfl)) (pa_cons (pe_callTy call_tuple_of (by rfl) mt (by decide +kernel) (pa_cons
              (pe_lc (own := [("_law_feature", 4)]) (g := gName 4) (by rfl) sc_plan.nd (pi_tup (pe_ix ix_tup (pv 3) pe_int (fun _ _ => rfl))) (blkOk_by (own := [("_law_feature", 4)]) (N := nPlan) (sc := defScope s_law_some_plan) (by decide +kernel)) (fun _ _ _ _ _ => pg_name (i := 4) sc_plan.nd rfl (Or.inl rfl))
                (fun _ _ _ _ _ => pts_one (pt_cmpR op_eq (C8.pe_c cT hr (by decide) rfl (pa_cons (pv 0) (pa_cons pe_int pa_nil))) pe_int (by rfl))) (fun _ _ _ _ _ => pe_ix (ixt_k (K := K)) (pv 4) pe_int (fun _ _ => rfl))) pa_nil)) pa_nil))) rfl)) pss_nil)))
      (pss_one (ps_ret (pv 2)))), ?_⟩
    refine fun fd hfd => ?_
    have m0 : Mod T [] H (upd H fd (.dK [])) := Mod.new hfd
    have e0 : (upd H fd (.dK [])) fd = some (.dK []) := upd_same
    generalize upd H fd (.dK []) = H0 at m0 e0
    obtain ⟨tp, te, packs, er, etp, lp, pp⟩ := hreg.mp (kt_mod m0)
    have hb0 := hb.mod m0
    refine ⟨_, rfl, _, rfl, r, _, 0, .ref tp, rfl, rfl, SqT.of er, atI_nat (j := 0) rfl, tp, _, rfl, .inr (SqT.of etp), fun li hli => ?_⟩
    have m1 : Mod T [] H0 (upd H0 li (.lst (packs.map V.ref))) := Mod.new hli
    have e1 : (upd H0 li (.lst (packs.map V.ref))) li = some (.lst (packs.map V.ref)) := upd_same
    generalize upd H0 li (.lst (packs.map V.ref)) = H1 at m1 e1
    have hb1 := hb0.mod m1
    refine ⟨b, l, li, _, rfl, hb1, e1, hb0.new hli, by rw [List.length_map]; omega, fun H2 mp ys m2 hb2 nmp emp lys sys => ?_⟩
    rw [List.length_map] at lys
    have nmb := hb1.new nmp
    refine ⟨mp, rfl, ⟨_, SqL.of emp⟩, ?_⟩
    have hpk : ∀ y ∈ ys, ∃ u, y = .ref u ∧ PackAt H2 u := fun y hy => by
      obtain ⟨u, hu, rfl⟩ := List.mem_map.mp (sys y hy)
      exact ⟨u, rfl, ((pp u hu).mp (kt_mod m1)).mp (kt_mod1 m2 hb1)⟩
    refine for_list (xs := ys) (fun i σ' H' => ∃ y3, σ' = [some (.ref b), some (.ref r), some (.ref fd), y3, none] ∧ Mod T [b] H H' ∧ BagAt H' b l ∧ H' mp = some (.lst ys) ∧ (∀ y ∈ ys, ∃ u, y = .ref u ∧ PackAt H' u) ∧ PlanAt H' fd i)
      ⟨none, rfl, (m0.trans m1).any.trans m2, hb2, emp, hpk, [], m2.dK1 hb1 (m1.dK e0), Nat.zero_le _, .nil, fun kv h => by cases h⟩ (fun i σ' H' _ ⟨_, _, _, _, e, _⟩ => SqL.of e) (fun i x σ' H' hx ⟨y3, es, m, hb', em, hp, hpl⟩ => ?_) (fun σ' H' ⟨y3, es, m, hb', em, hp, hpl⟩ => ?_)
    · subst es
      obtain ⟨u, rfl, hu⟩ := hp x (List.mem_of_getElem? hx)
      have hi6 := (List.getElem?_eq_some_iff.mp hx).1
      obtain ⟨kvs, ekv, lkv, ndk, hkv⟩ := hpl
      refine ⟨_, rfl, b, l, 3, rfl, by decide, by decide, hb', fun H3 v m3 hb3 hv => ?_⟩
      have up3 := kt_mod1 m3 hb'
      refine ⟨_, _, rfl, rfl, _, rfl, ?_⟩
      refine ite2 (fun _ => ?_) (fun _ => ?_)
      · obtain ⟨nm, tv, tf, tl, v1, v2, v3, v4, fe, fa, rows, eu, gn, vt, etf, lfe, hfe, etl, prs, lrs, grs⟩ := (hu.mp up3).ex
        refine ⟨_, rfl, u, _, 1, .ref tv, rfl, rfl, SqT.of eu, atI_nat (j := 1) rfl, ?_⟩
        refine ⟨_, rfl, u, _, 5, .ref tf, rfl, rfl, SqT.of eu, atI_nat (j := 5) rfl, tf, rfl, ⟨_, SqT.of etf⟩, fun B hB => ?_⟩
        refine lc_it (walk_tup (xs := fe)) (fun k H' => Mod T [b] H3 H' ∧ BagAt H' b l ∧ ∃ ws : List Str, H' B = some (.lst (ws.map V.str)) ∧ ws.length ≤ k ∧ ∀ x ∈ ws, Gd 1 x) ⟨(Mod.new hB).any, hb3.mod (Mod.new (T := T) hB), [], upd_same, Nat.zero_le _, fun x hx => by cases hx⟩ (fun k H' _ hp => SqT.of (hp.1.tup1 hb3 etf)) (fun k x H4 H5 hk hp hy => ?_) (fun H4 hp => ?_)
        · obtain ⟨m4, hb4, ws, e4, lw, gw⟩ := hp
          obtain ⟨rfl, hx⟩ := hy
          obtain ⟨qd, r1, r2, rfl, eq⟩ := hfe x (List.mem_of_getElem? hx)
          refine ⟨rfl, ?_⟩
          refine ⟨_, rfl, b, l, 2, rfl, by decide, by decide, hb4, fun H6 v m6 hb6 hv => ?_⟩
          refine ⟨rfl, _, rfl, ?_⟩
          have nBb := hb3.new hB
          have e6 := m6.lst1 nBb e4
          refine ite2 (fun _ => ?_) (fun _ => ⟨m4.trans m6, hb6, ws, e6, by omega, gw⟩)
          refine ⟨_, rfl, qd, _, 0, .str (Str.ofString "f"), rfl, rfl, SqT.of ((m4.trans m6).tup1 hb3 eq), atI_nat (j := 0) rfl, ?_⟩
          refine ⟨_, e6, by rw [List.length_map]; exact small_lt (by omega), (m4.trans m6).own hB e6 pl_lst, hb6.own hb3 hB, ws ++ [Str.ofString "f"], ?_, ?_, fun x hx => ?_⟩
          · rw [upd_same, List.map_append]
            rfl
          · rw [List.length_append]
            exact Nat.succ_le_succ lw
          · rcases List.mem_append.mp hx with hx | hx
            · exact gw x hx
            · rw [List.mem_singleton.mp hx]
              exact gd_of (by decide +kernel) (by decide +kernel)
        · obtain ⟨m4, hb4, ws, e4, lw, gw⟩ := hp
          refine ⟨B, _, rfl, .inl ⟨SqL.of e4, fun t2 ht2 => ?_⟩⟩
          have m5 : Mod T [] H4 (upd H4 t2 (.tup (ws.map V.str))) := Mod.new ht2
          have e5 : (upd H4 t2 (.tup (ws.map V.str))) t2 = some (.tup (ws.map V.str)) := upd_same
          generalize upd H4 t2 (.tup (ws.map V.str)) = H5 at m5 e5
          refine ⟨(by show 2 ≤ sizeLine; decide), fun t3 ht3 => ?_⟩
          have m6 : Mod T [] H5 (upd H5 t3 (.tup [.ref tv, .ref t2])) := Mod.new ht3
          have e6 : (upd H5 t3 (.tup [.ref tv, .ref t2])) t3 = some (.tup [.ref tv, .ref t2]) := upd_same
          generalize upd H5 t3 (.tup [.ref tv, .ref t2]) = H6 at m6 e6
          have mm : Mod T [b] H3 H6 := m4.trans (m5.trans m6).any
          have up := kt_mod1 mm hb3
          have mB := m3.trans mm
          have ek6 := mB.dK1 hb' ekv
          have dp := DPut.k (k := Sum.inr nm) (v := V.ref t3) ek6 (by rw [len_dk]; exact small_lt (by omega))
          rw [put_dk] at dp
          refine ⟨_, rfl, _, rfl, u, _, 0, .str nm, rfl, rfl, SqT.of (up _ _ eu), atI_nat (j := 0) rfl, fd, _, rfl, dp, ?_⟩
          have kt := kt_upd (o := .dK (dk V.ref (put kvs nm t3))) ek6 (fun _ z => by cases z)
          have ktA : ∀ t xs, H' t = some (.tup xs) → (upd H6 fd (.dK (dk V.ref (put kvs nm t3)))) t = some (.tup xs) := fun t xs e => kt _ _ (kt_mod1 mB hb' _ _ e)
          have hb6 := hb4.mod (m5.trans m6)
          have nmpfd : mp ≠ fd := fun z => by
            rw [z, ekv] at em
            cases em
          refine ⟨_, rfl, (m.trans mB).own hfd ek6 pl_dK, hb6.own hb hfd, ?_, fun y hy => ?_, put kvs nm t3, upd_same, ?_, nd_put _ _ ndk, fun kv hkv' => ?_⟩
          · rw [upd_ne nmpfd]
            exact mB.lst1 nmb em
          · obtain ⟨u2, e, h⟩ := hp y hy
            exact ⟨u2, e, h.mp ktA⟩
          · have : (put kvs nm t3).length ≤ kvs.length + 1 := by
              by_cases z : (look kvs nm).isSome = true
              · rw [put_in t3 z, List.length_map]
                omega
              · have z : look kvs nm = none := by
                  cases z' : look kvs nm with
                  | none => rfl
                  | some _ => rw [z'] at z; exact absurd rfl z
                rw [put_out t3 z, List.length_append]
                exact Nat.le_refl _
            omega
          · rcases mem_put hkv' with rfl | h
            · exact ⟨tv, t2, ws, gn, kt _ _ e6, (vt.mp up).mp kt, kt _ _ (m6.tup e5), by omega, gw⟩
            · exact (hkv kv h).mp ktA
      · refine ⟨_, rfl, m.trans m3, hb3, m3.lst1 nmb em, fun y hy => ?_, kvs, m3.dK1 hb' ekv, by omega, ndk, fun kv h => (hkv kv h).mp up3⟩
        obtain ⟨u2, e, h⟩ := hp y hy
        exact ⟨u2, e, h.mp up3⟩
    · subst es
      obtain ⟨kvs, ekv, lkv, r⟩ := hpl
      exact ⟨_, rfl, q H' fd m hb' hfd ⟨kvs, ekv, by omega, r⟩⟩
end Pw

set_option maxHeartbeats 4000000
namespace Pw
open PySem PySem.Spec PyProof.Rows L2 LamX
variable {P : Program} {w : World} {K : PySem.W.Frag} {mg : Str → Option Value} {base : Heap} {T : List (Addr × Str)}
theorem gd_dig {n : Nat} (h : n ≤ 3) : Gd 1 (Str.ofString (toString ((n : Nat) : Int))) := by
  refine ⟨?_, (gd_num (n := n) (by omega)).2⟩
  rw [str_len, num_txt]
  exact TL.numL_len (by decide) (show n < 10 ^ 1 by omega)
/-- a tuple of texts against the empty one -/
theorem ne_nilT {H : Hp} {a b : Addr} {ws : List Str} {Q : VK} (ha : H a = some (.tup (ws.map V.str))) (hb : H b = some (.tup [])) (h : ∀ x ∈ ws, ∀ c ∈ x.cps.toList, c < 128) (q : Q (.bl (!ws.isEmpty)) H) : rNeD K (.ref a) (.ref b) H Q := by
  have sh : SeqAt.shaped (.tuple (pdS ws)) = true := by
    unfold SeqAt.shaped
    rw [PyData.canLay0, can_strs ws h, PyData.depth, depth_strs]
    rfl
  refine ⟨.tuple (pdS ws), .tuple [], .tup (SqT.of ha) (dp_strs ws), .tup (SqT.of hb) .nil, sh, by decide, ?_⟩
  have e : PyData.eqv (.tuple (pdS ws)) (.tuple []) = ws.isEmpty := by
    cases ws with
    | nil => rfl
    | cons x r =>
      show PyData.eqv (.tuple (PyData.str x :: pdS r)) (.tuple []) = _
      rw [PyData.eqv, PyData.eqvAll]
      rfl
  rw [e]
  exact q
def spLock (T : List (Addr × Str)) : Sp := fun vs H Q _ => ∃ p : Addr, vs = [.ref p] ∧ PlanAt H p 6 ∧ ∀ (H' : Hp) (s : Str), Mod T [] H H' → Gd 300 s → Q (.str s) H'
abbrev nLock : List Str := ["_law_plan", "_law_found", "_law_name", "_law_version", "_law_features", "_law_words", "_law_part"]
theorem sc_lock : FnScope nLock ["_law_plan"] (defScope s_law_lock_text) := ⟨rfl, rfl, rfl, by decide +kernel, rfl, by decide +kernel, by decide +kernel⟩
theorem ok_lock (D : PwDef K mg "_law_lock_text" s_law_lock_text) (ms : mg "sorted" = none) (mstr : mg "str" = none) (mli : mg "list" = none) : Cal P w K mg base 1 "_law_lock_text" (spLock T) [] := by
  refine cal_of D sc_lock (fun _ _ _ _ _ _ us hl => match us, hl with | [_], _ => rfl) (fun vs H Q E h => ?_) (fun f cdv A outer s H vs Q E hr h => ?_)
  · obtain ⟨p, rfl, _⟩ := h
    rfl
  · obtain ⟨p, rfl, ⟨kvs, ek, lk, ndk, hk⟩, q⟩ := h
    refine ⟨_, pss_cons (ps_set (i := 1) sc_lock.nd rfl (.inl rfl) (pe_lst pa_nil))
      (pss_cons (ps_for PassesOwn.never rfl (pi_list (pe_callB (call_sortedD rfl) (by rfl) ms (by decide +kernel) (pa_cons (pv 0) pa_nil))) (pg_name (i := 2) sc_lock.nd rfl (.inl rfl))
        (pss_cons (ps_asg (pe_dget (hu_of hr) (pv 0) (pv 2) (fun _ _ => rfl)) (pg_tup rfl (pgs_cons (pg_name (i := 3) sc_lock.nd rfl (.inl rfl)) (pgs_cons (pg_name (i := 4) sc_lock.nd rfl (.inl rfl)) pgs_nil))))
        (pss_cons (ps_set (i := 5) sc_lock.nd rfl (.inl rfl) (pe_lst (pa_cons pe_str (pa_cons (pv 2) (pa_cons (pe_join pe_str
          (pe_lc (own := [("_law_part", 6)]) (g := gName 6) (by rfl) sc_lock.nd (pi_tup (pv 3)) (blkOk_by (own := [("_law_part", 6)]) (N := nLock) (sc := defScope s_law_lock_text) (by decide +kernel)) (fun _ _ _ _ _ => pg_name (i := 6) sc_lock.nd rfl (Or.inl rfl))
            (fun _ _ _ _ _ => pts_nil) (fun _ _ _ _ _ => pe_callTy call_str_int (by rfl) mstr (by decide +kernel) (pa_cons (pv 6) pa_nil)))) pa_nil)))))
        (pss_one (ps_expr (pe_bm PySem.F.plainAttrs_list PySem.F.slot_list_append PySem.F.type_list_append mt_append (pv 1) (pa_cons
          (pe_join pe_str (pe_op op_cat (pv 5) (pe_ifExp (pt_cmpR (op_neD hr.units) (pv 4) (pe_tup pa_nil) (nomark _)) (pe_op op_cat (pe_lst (pa_cons pe_str (pa_cons pe_str pa_nil))) (pe_callTy call_list_of (by rfl) mli (by decide +kernel) (pa_cons (pv 4) pa_nil))) (pe_lst pa_nil)))) pa_nil)))))))
      (pss_one (ps_ret (pe_join pe_str (pv 1))))), ?_⟩
    refine ⟨Nat.zero_le _, fun fd hfd => ?_⟩
    have m0 : Mod T [] H (upd H fd (.lst [])) := Mod.new hfd
    have e0 : (upd H fd (.lst [])) fd = some (.lst []) := upd_same
    generalize upd H fd (.lst []) = H0 at m0 e0
    refine ⟨_, rfl, p, dk V.ref kvs, kvs.map (·.1), rfl, .inl (m0.dK ek), keys_dk _, by rw [List.length_map]; omega, fun ys sp hperm _ hsp => ?_⟩
    have m1 : Mod T [] H0 (upd H0 sp (.lst (ys.map V.str))) := Mod.new hsp
    have e1 : (upd H0 sp (.lst (ys.map V.str))) sp = some (.lst (ys.map V.str)) := upd_same
    generalize upd H0 sp (.lst (ys.map V.str)) = H1 at m1 e1
    have lys : ys.length ≤ 6 := by
      rw [hperm.length_eq, List.length_map]
      exact lk
    have nsf : sp ≠ fd := fun z => by
      rw [z, e0] at hsp
      cases hsp
    refine ⟨sp, rfl, ⟨_, SqL.of e1⟩, ?_⟩
    refine for_list (xs := ys.map V.str) (fun i σ' H' => ∃ (y2 y3 y4 y5 : Option V) (ws : List Str), σ' = [some (.ref p), some (.ref fd), y2, y3, y4, y5, none] ∧ Mod T [] H H' ∧ H' sp = some (.lst (ys.map V.str)) ∧ H' fd = some (.lst (ws.map V.str)) ∧ ws.length ≤ i ∧ ∀ x ∈ ws, Gd 42 x)
      ⟨none, none, none, none, [], rfl, m0.trans m1, e1, m1.lst e0, Nat.zero_le _, fun x hx => by cases hx⟩ (fun i σ' H' _ ⟨_, _, _, _, _, _, _, e, _⟩ => SqL.of e) (fun i x σ' H' hx ⟨y2, y3, y4, y5, ws, es, m, es1, ed, lw, gw⟩ => ?_) (fun σ' H' ⟨y2, y3, y4, y5, ws, es, m, es1, ed, lw, gw⟩ => ?_)
    · subst es
      obtain ⟨nm, hnm, rfl⟩ := Option.map_eq_some_iff.mp ((List.getElem?_map (f := V.str) ▸ hx : _))
      have hi6 := (List.getElem?_eq_some_iff.mp hnm).1
      obtain ⟨kv, hkv, ekv⟩ := List.mem_map.mp (hperm.mem_iff.mp (List.mem_of_getElem? hnm))
      subst ekv
      obtain ⟨tv, tf, fs, gn, eu, ⟨vx, vy, vz, ev, b1, b2, b3⟩, etf, lf, gf⟩ := hk kv hkv
      have g := DGet.k (k := Sum.inr kv.1) (m.dK ek)
      rw [val_dk, mem_look ndk (show (kv.1, kv.2) ∈ kvs from hkv)] at g
      refine ⟨_, rfl, _, rfl, p, _, rfl, g, kv.2, _, rfl, SqT.of (m.tup eu), rfl, _, _, rfl, _, _, rfl, rfl, ?_⟩
      -- the version's text
      refine ⟨_, rfl, ⟨_, rfl⟩, _, rfl, tv, rfl, ⟨_, SqT.of (m.tup ev)⟩, fun B hB => ?_⟩
      refine lc_it (walk_tup (xs := [V.int (vx : Nat), .int (vy : Nat), .int (vz : Nat)])) (fun k H2 => Mod T [] H' H2 ∧ ∃ vs : List Str, H2 B = some (.lst (vs.map V.str)) ∧ vs.length ≤ k ∧ ∀ x ∈ vs, Gd 1 x) ⟨Mod.new hB, [], upd_same, Nat.zero_le _, fun x hx => by cases hx⟩ (fun k H2 _ hp => SqT.of (hp.1.tup (m.tup ev))) (fun k x H2 H3 hk hp hy => ?_) (fun H2 hp => ?_)
      · obtain ⟨m2, vs, e2, lv, gv⟩ := hp
        obtain ⟨rfl, hx⟩ := hy
        obtain ⟨n, rfl, hn⟩ : ∃ n : Nat, x = .int (n : Nat) ∧ n ≤ 3 := by
          have := List.mem_of_getElem? hx
          simp only [List.mem_cons, List.not_mem_nil, or_false] at this
          rcases this with rfl | rfl | rfl
          · exact ⟨vx, rfl, b1⟩
          · exact ⟨vy, rfl, b2⟩
          · exact ⟨vz, rfl, b3⟩
        have hk3 : k < 3 := hk
        refine ⟨rfl, yes_ (iteT ?_)⟩
        refine ⟨_, rfl, _, rfl, log2_small (by omega), _, e2, by rw [List.length_map]; exact small_lt (by omega), m2.own hB e2 pl_lst, vs ++ [Str.ofString (toString ((n : Nat) : Int))], ?_, ?_, fun x hx => ?_⟩
        · rw [upd_same, List.map_append]
          rfl
        · rw [List.length_append]
          exact Nat.succ_le_succ lv
        · rcases List.mem_append.mp hx with hx | hx
          · exact gv x hx
          · rw [List.mem_singleton.mp hx]
            exact gd_dig hn
      · obtain ⟨m2, vs, e2, lv, gv⟩ := hp
        have lv : vs.length ≤ 3 := lv
        refine ⟨_, B, vs, rfl, rfl, .inl (SqL.of e2), join_ok gv (k := 1) (by decide +kernel) lv (by decide), (by show 3 ≤ sizeLine; decide), fun wp hwp => ?_⟩
        have gver : Gd 6 (Txt.join (Str.ofString ".") vs) := gd_glued (m := 1) (k := 1) (n := 3) (gd_of (by decide +kernel) (by decide +kernel)) vs gv lv
        generalize Txt.join (Str.ofString ".") vs = ver at gver
        have m3 : Mod T [] H2 (upd H2 wp (.lst [.str (Str.ofString "lock"), .str kv.1, .str ver])) := Mod.new hwp
        have e3 : (upd H2 wp (.lst [.str (Str.ofString "lock"), .str kv.1, .str ver])) wp = some (.lst (([Str.ofString "lock", kv.1, ver] : List Str).map V.str)) := upd_same
        generalize upd H2 wp (.lst [.str (Str.ofString "lock"), .str kv.1, .str ver]) = H3 at m3 e3
        have m13 := m2.trans m3
        have g3 : ∀ x ∈ ([Str.ofString "lock", kv.1, ver] : List Str), Gd 6 x := by
          intro x hx
          simp only [List.mem_cons, List.not_mem_nil, or_false] at hx
          rcases hx with rfl | rfl | rfl
          · exact gd_of (by decide +kernel) (by decide +kernel)
          · exact gn.mono (by omega)
          · exact gver
        have lw3 : ([Str.ofString "lock", kv.1, ver] : List Str).length = 3 := rfl
        generalize ([Str.ofString "lock", kv.1, ver] : List Str) = w3 at e3 g3 lw3
        refine ⟨.ref fd, rfl, .inl ⟨rfl, _, SqL.of (m13.lst ed)⟩, ⟨_, rfl⟩, _, rfl, _, rfl, Nat.zero_le _, fun tn htn => ?_⟩
        have m4 : Mod T [] H3 (upd H3 tn (.tup [])) := Mod.new htn
        have e4 : (upd H3 tn (.tup [])) tn = some (.tup []) := upd_same
        generalize upd H3 tn (.tup []) = H4 at m4 e4
        have mtf := (m.trans m13).trans m4
        refine ne_nilT (mtf.tup etf) e4 (fun x hx => (gf x hx).2) ⟨_, rfl, ?_⟩
        refine ite2 (fun _ => ?_) (fun _ => ?_)
        · refine ⟨(by show 2 ≤ sizeLine; decide), fun q1 hq1 => ?_⟩
          have k1 : Mod T [] H4 (upd H4 q1 (.lst [.str (Str.ofString ";"), .str (Str.ofString "with")])) := Mod.new hq1
          have f1 : (upd H4 q1 (.lst [.str (Str.ofString ";"), .str (Str.ofString "with")])) q1 = some (.lst (([Str.ofString ";", Str.ofString "with"] : List Str).map V.str)) := upd_same
          generalize upd H4 q1 (.lst [.str (Str.ofString ";"), .str (Str.ofString "with")]) = G1 at k1 f1
          refine ⟨_, rfl, tf, fs.map V.str, rfl, .inr (SqT.of ((mtf.trans k1).tup etf)), fun q2 hq2 => ?_⟩
          have k2 : Mod T [] G1 (upd G1 q2 (.lst (fs.map V.str))) := Mod.new hq2
          have f2 : (upd G1 q2 (.lst (fs.map V.str))) q2 = some (.lst (fs.map V.str)) := upd_same
          generalize upd G1 q2 (.lst (fs.map V.str)) = G2 at k2 f2
          refine ⟨q1, q2, _, _, rfl, rfl, k2.lst f1, f2, ?_, fun q3 hq3 => ?_⟩
          · rw [List.length_map, List.length_map]
            exact small_sz (by show 2 + _ ≤ _; omega)
          have k3 : Mod T [] G2 (upd G2 q3 (.lst (([Str.ofString ";", Str.ofString "with"] : List Str).map V.str ++ fs.map V.str))) := Mod.new hq3
          have e5 : (upd G2 q3 (.lst (([Str.ofString ";", Str.ofString "with"] : List Str).map V.str ++ fs.map V.str))) q3 = some (.lst ((([Str.ofString ";", Str.ofString "with"] : List Str) ++ fs).map V.str)) := by
            rw [upd_same, List.map_append]
          generalize upd G2 q3 (.lst (([Str.ofString ";", Str.ofString "with"] : List Str).map V.str ++ fs.map V.str)) = H5 at k3 e5
          have m5 := (k1.trans k2).trans k3
          have l2 : (([Str.ofString ";", Str.ofString "with"] : List Str) ++ fs).length ≤ 3 := by
            rw [List.length_append]
            show 2 + _ ≤ 3
            omega
          have g2 : ∀ x ∈ ([Str.ofString ";", Str.ofString "with"] : List Str) ++ fs, Gd 6 x := by
            intro x hx
            rcases List.mem_append.mp hx with hx | hx
            · simp only [List.mem_cons, List.not_mem_nil, or_false] at hx
              rcases hx with rfl | rfl
              · exact gd_of (by decide +kernel) (by decide +kernel)
              · exact gd_of (by decide +kernel) (by decide +kernel)
            · exact (gf x hx).mono (by omega)
          generalize ([Str.ofString ";", Str.ofString "with"] : List Str) ++ fs = w2 at e5 l2 g2
          refine ⟨wp, q3, _, _, rfl, rfl, (m4.trans m5).lst e3, e5, ?_, fun r hr => ?_⟩
          · rw [List.length_map, List.length_map]
            exact small_sz (by omega)
          have m6 : Mod T [] H5 (upd H5 r (.lst (w3.map V.str ++ w2.map V.str))) := Mod.new hr
          have e6 : (upd H5 r (.lst (w3.map V.str ++ w2.map V.str))) r = some (.lst ((w3 ++ w2).map V.str)) := by
            rw [upd_same, List.map_append]
          have g6 : ∀ x ∈ w3 ++ w2, Gd 6 x := fun x hx => by
            rcases List.mem_append.mp hx with hx | hx
            · exact g3 x hx
            · exact g2 x hx
          have l6 : (w3 ++ w2).length ≤ 6 := by
            rw [List.length_append]
            omega
          generalize upd H5 r (.lst (w3.map V.str ++ w2.map V.str)) = H6 at m6 e6
          have mm := m13.trans ((m4.trans m5).trans m6)
          refine ⟨_, r, w3 ++ w2, rfl, rfl, .inl (SqL.of e6), join_ok g6 (k := 1) (by decide +kernel) l6 (by decide), ?_⟩
          refine ⟨fd, _, _, rfl, rfl, mm.lst ed, by rw [List.length_map]; exact small_lt (by omega), ?_⟩
          refine ⟨_, _, _, _, ws ++ [Txt.join (Str.ofString " ") (w3 ++ w2)], rfl, (m.trans mm).own hfd (mm.lst ed) pl_lst, ?_, ?_, ?_, fun x hx => ?_⟩
          · rw [upd_ne nsf]
            exact mm.lst es1
          · rw [upd_same, List.map_append]
            rfl
          · rw [List.length_append]
            exact Nat.succ_le_succ lw
          · rcases List.mem_append.mp hx with hx | hx
            · exact gw x hx
            · rw [List.mem_singleton.mp hx]
              exact gd_glued (m := 6) (k := 1) (n := 6) (gd_of (by decide +kernel) (by decide +kernel)) _ g6 l6
        · refine ⟨Nat.zero_le _, fun q3 hq3 => ?_⟩
          have m5 : Mod T [] H4 (upd H4 q3 (.lst [])) := Mod.new hq3
          have e5 : (upd H4 q3 (.lst [])) q3 = some (.lst (([] : List Str).map V.str)) := upd_same
          generalize upd H4 q3 (.lst []) = H5 at m5 e5
          have l2 : ([] : List Str).length ≤ 3 := Nat.zero_le _
          have g2 : ∀ x ∈ ([] : List Str), Gd 6 x := fun x hx => by cases hx
          generalize ([] : List Str) = w2 at e5 l2 g2
          refine ⟨wp, q3, _, _, rfl, rfl, (m4.trans m5).lst e3, e5, ?_, fun r hr => ?_⟩
          · rw [List.length_map, List.length_map]
            exact small_sz (by omega)
          have m6 : Mod T [] H5 (upd H5 r (.lst (w3.map V.str ++ w2.map V.str))) := Mod.new hr
          have e6 : (upd H5 r (.lst (w3.map V.str ++ w2.map V.str))) r = some (.lst ((w3 ++ w2).map V.str)) := by
            rw [upd_same, List.map_append]
          have g6 : ∀ x ∈ w3 ++ w2, Gd 6 x := fun x hx => by
            rcases List.mem_append.mp hx with hx | hx
            · exact g3 x hx
            · exact g2 x hx
          have l6 : (w3 ++ w2).length ≤ 6 := by
            rw [List.length_append]
            omega
          generalize upd H5 r (.lst (w3.map V.str ++ w2.map V.str)) = H6 at m6 e6
          have mm := m13.trans ((m4.trans m5).trans m6)
          refine ⟨_, r, w3 ++ w2, rfl, rfl, .inl (SqL.of e6), join_ok g6 (k := 1) (by decide +kernel) l6 (by decide), ?_⟩
          refine ⟨fd, _, _, rfl, rfl, mm.lst ed, by rw [List.length_map]; exact small_lt (by omega), ?_⟩
          refine ⟨_, _, _, _, ws ++ [Txt.join (Str.ofString " ") (w3 ++ w2)], rfl, (m.trans mm).own hfd (mm.lst ed) pl_lst, ?_, ?_, ?_, fun x hx => ?_⟩
          · rw [upd_ne nsf]
            exact mm.lst es1
          · rw [upd_same, List.map_append]
            rfl
          · rw [List.length_append]
            exact Nat.succ_le_succ lw
          · rcases List.mem_append.mp hx with hx | hx
            · exact gw x hx
            · rw [List.mem_singleton.mp hx]
              exact gd_glued (m := 6) (k := 1) (n := 6) (gd_of (by decide +kernel) (by decide +kernel)) _ g6 l6
    · subst es
      rw [List.length_map] at lw
      refine ⟨⟨_, rfl⟩, _, rfl, _, fd, ws, rfl, rfl, .inl (SqL.of ed), join_ok gw (k := 1) (by decide +kernel) (Nat.le_trans lw lys) (by decide), ?_⟩
      exact q _ _ m ((gd_glued (m := 42) (k := 1) (n := 6) (gd_of (by decide +kernel) (by decide +kernel)) ws gw (Nat.le_trans lw lys)).mono (by decide))
end Pw

set_option maxHeartbeats 4000000
namespace Pw
open PySem PySem.Spec PyProof.Rows L2 LamX
variable {P : Program} {w : World} {K : PySem.W.Frag} {mg : Str → Option Value} {base : Heap} {T : List (Addr × Str)}
/-- an expression whose ways are joined by a word -/
theorem pe_cutE {X : Cx} {e : Expr} {t : TE} (h : PE X e t) : PE X e (fun σ H Q => ∃ Mid : VK, t σ H Mid ∧ ∀ v H', Mid v H' → Q v H') :=
  ⟨fun pins s σ H Q I ⟨Mid, h1, h2⟩ => thn (h.run pins s σ H Mid I h1) fun v s1 ⟨x, H1, I1, r1, q1⟩ => ⟨x, H1, I1, r1, h2 _ _ q1⟩⟩
theorem rep_one (c : Bool) (x : Str) : (List.replicate (if c = true then (1 : Int) else 0).toNat [V.str x]).flatten = ((if c = true then [x] else []) : List Str).map V.str := by cases c <;> rfl
theorem rep_lo (c : Bool) : -(2 ^ 63) ≤ (if c = true then (1 : Int) else 0) := by cases c <;> decide
theorem rep_hi (c : Bool) : (if c = true then (1 : Int) else 0) < 2 ^ 63 := by cases c <;> decide
theorem rep_sz (c : Bool) : 1 * (if c = true then (1 : Int) else 0).toNat ≤ sizeLine := by cases c <;> decide
theorem rep_gd {n : Nat} (c : Bool) {x : Str} (h : Gd n x) : ∀ y ∈ ((if c = true then [x] else []) : List Str), Gd n y := by
  cases c
  · intro y hy
    cases hy
  · intro y hy
    rw [List.mem_singleton.mp hy]
    exact h
theorem rep_len (c : Bool) (x : Str) : ((if c = true then [x] else []) : List Str).length ≤ 1 := by cases c <;> simp
def spDLog (T : List (Addr × Str)) : Sp := fun vs H Q _ => ∃ (b l a : Addr) (fs : Fs), vs = [.ref b, .ref a] ∧ BagAt H b l ∧ FsAt H a fs ∧ FOk 60 fs ∧ ∀ (H' : Hp) (s : Str), Mod T [b] H H' → BagAt H' b l → Gd 1000 s → Q (.str s) H'
abbrev nDLog : List Str := ["_law_bag_here", "_law_files", "_law_shelves", "_law_number", "_law_paths", "_law_steps", "_law_turn", "_law_path", "_law_text"]
def pathsL : List Str := ["app", "app/doc", "bin/b", "old", "z/z"]
theorem pathsL_gd : ∀ s ∈ pathsL, Gd 30 s := by
  have h : pathsL.all (fun s => decide (s.length ≤ 30) && s.cps.all (· < 128)) = true := by decide +kernel
  intro s hs
  have := List.all_eq_true.mp h s hs
  rw [Bool.and_eq_true] at this
  exact gd_of (of_decide_eq_true this.1) this.2
theorem sc_dlog : FnScope nDLog ["_law_bag_here", "_law_files"] (defScope s_law_drawn_log) := ⟨rfl, rfl, rfl, by decide +kernel, rfl, by decide +kernel, by decide +kernel⟩
theorem ok_dlog (D : PwDef K mg "_law_drawn_log" s_law_drawn_log) (cN : Cal P w K mg base 2 "_law_numbers" (spNums T) []) (cO : Cal P w K mg base 2 "_law_one" (spOne T) []) (cT : Cal P w K mg base 1 "_law_take" (spTake T) []) (cL : Cal P w K mg base 1 "_law_log_text" (spLogT T) [])
    (mstr : mg "str" = none) (mi : mg "int" = none) (mr : mg "range" = none) (mt : mg "tuple" = none) (ml : mg "len" = none) : Cal P w K mg base 3 "_law_drawn_log" (spDLog T) [] := by
  refine cal_of D sc_dlog (fun _ _ _ _ _ _ us hl => match us, hl with | [_, _], _ => rfl) (fun vs H Q E h => ?_) (fun f cdv A outer s H vs Q E hr h => ?_)
  · obtain ⟨b, l, a, fs, rfl, _⟩ := h
    rfl
  · obtain ⟨b, l, a, fs, rfl, hb, hA, hok, q⟩ := h
    have hA : H a = some (.dK (dS fs)) := hA
    refine ⟨_, pss_cons (ps_setLc (i := 2) (own := [("_law_number", 3)]) (g := gName 3) (by rfl) sc_dlog.nd rfl rfl (sw_true rfl rfl rfl (by decide +kernel)) (pi_list (C8.pe_c cN hr (by decide) rfl (pa_cons (pv 1) (pa_cons pe_str pa_nil))))
        (blkOk_by (own := [("_law_number", 3)]) (N := nDLog) (sc := defScope s_law_drawn_log) (by decide +kernel)) (fun _ _ _ _ _ => pg_name (i := 3) sc_dlog.nd rfl (Or.inl rfl))
        (fun _ _ _ _ _ => pts_nil) (fun _ _ _ _ _ => pe_op op_add_str pe_str (pe_callTy call_str_int (by rfl) mstr (by decide +kernel) (pa_cons (pv 3) pa_nil))))
      (pss_cons (ps_set (i := 2) sc_dlog.nd rfl (.inl rfl) (pe_op op_cat (pv 2) (pe_op op_rep (pe_lst (pa_cons pe_str pa_nil)) (pe_callTy call_int1 (by rfl) mi (by decide +kernel) (pa_cons (pe_cmp (pc_eqI (C8.pe_c cT hr (by decide) rfl (pa_cons (pv 0) (pa_cons pe_int pa_nil))) pe_int) (by rfl)) pa_nil)))))
      (pss_cons (ps_par (i := 4) (j := 5) (by rfl) sc_dlog.nd rfl rfl (by decide) rfl rfl (pa_cons (pe_lst (pa_cons pe_str (pa_cons pe_str (pa_cons pe_str (pa_cons pe_str (pa_cons pe_str pa_nil)))))) (pa_cons (pe_lst pa_nil) pa_nil)) (by rfl))
      (pss_cons (ps_for PassesOwn.never rfl (pi_range1 rfl mr (pa_cons (pe_cutE (pe_ifExp (pt_cmpR (op_neD hr.units) (pv 2) (pe_lst pa_nil) (nomark _)) (C8.pe_c cT hr (by decide) rfl (pa_cons (pv 0) (pa_cons pe_int pa_nil))) pe_int)) pa_nil)) (pg_name (i := 6) sc_dlog.nd rfl (.inl rfl))
        (pss_cons (ps_set (i := 7) sc_dlog.nd rfl (.inl rfl) (C8.pe_c cO hr (by decide) rfl (pa_cons (pv 0) (pa_cons (pv 4) pa_nil))))
        (pss_one (ps_expr (pe_bm PySem.F.plainAttrs_list PySem.F.slot_list_append PySem.F.type_list_append mt_append (pv 5) (pa_cons
          (pe_cutE (pe_ifExp (pt_cmpR op_eq (C8.pe_c cT hr (by decide) rfl (pa_cons (pv 0) (pa_cons pe_int pa_nil))) pe_int (nomark _)) (pe_tup (pa_cons pe_str (pa_cons (pv 7) pa_nil))) (pe_tup (pa_cons pe_str (pa_cons (pv 7) (pa_cons (C8.pe_c cO hr (by decide) rfl (pa_cons (pv 0) (pa_cons (pv 2) pa_nil))) pa_nil)))))) pa_nil))))))
      (pss_cons (ps_set (i := 8) sc_dlog.nd rfl (.inl rfl) (C8.pe_c cL hr (by decide) rfl (pa_cons (pe_tup (pa_cons (pe_callTy call_tuple_of (by rfl) mt (by decide +kernel) (pa_cons (pv 5) pa_nil)) (pa_cons
        (C8.pe_c cO hr (by decide) rfl (pa_cons (pv 0) (pa_cons (pe_op op_cat (pv 2) (pe_op op_rep (pe_lst (pa_cons pe_str pa_nil)) (pe_callTy call_int1 (by rfl) mi (by decide +kernel) (pa_cons (pe_cmpR (op_eqD hr.units) (pv 2) (pe_lst pa_nil) (by rfl)) pa_nil)))) pa_nil))) pa_nil))) pa_nil)))
      (pss_one (ps_ret (pe_ifExp (pt_cmpR op_gt (C8.pe_c cT hr (by decide) rfl (pa_cons (pv 0) (pa_cons pe_int pa_nil))) pe_int (nomark _)) (pv 8)
        (pe_op op_add_str (pe_slice sl_str (pv 8) po_none (po_some (C8.pe_c cT hr (by decide) rfl (pa_cons (pv 0) (pa_cons (pe_op op_add (pe_callB call_len_str (by rfl) ml PySem.boot_len (pa_cons (pv 8) pa_nil)) pe_int) pa_nil)))))
          (C8.pe_c cO hr (by decide) rfl (pa_cons (pv 0) (pa_cons (pe_lst (pa_cons pe_str (pa_cons pe_str (pa_cons pe_str pa_nil)))) pa_nil))))))))))), ?_⟩
    -- the shelves' texts
    refine ⟨_, rfl, a, fs, rfl, hA, hok.mono (by decide), fun H1 np m1 nnp enp => ?_⟩
    refine ⟨np, rfl, ⟨_, SqL.of enp⟩, fun S hS => ?_⟩
    have hle := shelf_len hok
    refine lc_it (walk_list (xs := (nums fs).map nV)) (fun i H' => Mod T [] H1 H' ∧ H' S = some (.lst (((shelvesOf fs).take i).map V.str))) ⟨Mod.new hS, upd_same⟩ (fun i H' _ hp => hp.1.sql (SqL.of enp)) (fun i x H2 H3 hi hp hy => ?_) (fun H2 hp => ?_)
    · obtain ⟨m2, e2⟩ := hp
      obtain ⟨rfl, hx⟩ := hy
      obtain ⟨n, hn, rfl⟩ := Option.map_eq_some_iff.mp ((List.getElem?_map (f := nV) ▸ hx : _))
      obtain ⟨t1, t2⟩ := big_txt (mem_nums.mp (List.mem_of_getElem? hn)).1
      have hsn : (shelvesOf fs)[i]? = some (shPath n) := by
        unfold shelvesOf
        rw [List.getElem?_map, hn]
        rfl
      refine ⟨rfl, yes_ (iteT ?_)⟩
      refine ⟨_, rfl, _, rfl, t1, SH, _, rfl, rfl, t2, _, e2, ?_, m2.own hS e2 pl_lst, ?_⟩
      · rw [List.length_map, List.length_take]
        exact small_lt (by omega)
      · rw [upd_same, take_snoc hsn, List.map_append]
        rfl
    obtain ⟨m2, e2⟩ := hp
    have e2 : H2 S = some (.lst ((shelvesOf fs).map V.str)) := by
      have h1 : (shelvesOf fs).length = ((nums fs).map nV).length := by
        unfold shelvesOf
        rw [List.length_map, List.length_map]
      rw [← h1, List.take_of_length_le (Nat.le_refl _)] at e2
      exact e2
    have g2 : ∀ x ∈ shelvesOf fs, Gd 30 x := fun x hx => by
      obtain ⟨_, n, rfl, h⟩ := shelf_at hx
      exact (gd_path h).mono (by decide)
    generalize shelvesOf fs = L1 at e2 g2 hle
    have m02 := m1.trans m2
    have hb2 := hb.mod m02
    -- and one more
    refine ⟨_, rfl, (by show 1 ≤ sizeLine; decide), fun p1 hp1 => ?_⟩
    have m3 : Mod T [] H2 (upd H2 p1 (.lst [.str (Str.ofString "store/c77")])) := Mod.new hp1
    have e3 : (upd H2 p1 (.lst [.str (Str.ofString "store/c77")])) p1 = some (.lst [.str (Str.ofString "store/c77")]) := upd_same
    generalize upd H2 p1 (.lst [.str (Str.ofString "store/c77")]) = H3 at m3 e3
    have hb3 := hb2.mod m3
    refine ⟨_, rfl, b, l, 6, rfl, by decide, by decide, hb3, fun H4 v m4 hb4 hv => ?_⟩
    refine ⟨_, _, rfl, rfl, .inr ⟨_, rfl, ?_⟩⟩
    have np1 := hb2.new hp1
    have nSb := (hb.mod m1).new hS
    have e34 := m4.lst1 np1 e3
    refine ⟨p1, _, _, rfl, rfl, e34, rep_lo _, rep_hi _, rep_sz _, fun p2 hp2 => ?_⟩
    rw [rep_one]
    have gx77 : Gd 30 (Str.ofString "store/c77") := gd_of (by decide +kernel) (by decide +kernel)
    have g77 := rep_gd (decide (((v : Nat) : Int) = 0)) gx77
    have l77 := rep_len (decide (((v : Nat) : Int) = 0)) (Str.ofString "store/c77")
    show ∃ l m xs ys, V.ref S = V.ref l ∧ V.ref p2 = V.ref m ∧ (upd H4 p2 (.lst (((if decide (((v : Nat) : Int) = 0) = true then [Str.ofString "store/c77"] else []) : List Str).map V.str))) l = some (.lst xs) ∧ _
    generalize ((if decide (((v : Nat) : Int) = 0) = true then [Str.ofString "store/c77"] else []) : List Str) = Lx at g77 l77
    have m5 : Mod T [] H4 (upd H4 p2 (.lst (Lx.map V.str))) := Mod.new hp2
    have e5 : (upd H4 p2 (.lst (Lx.map V.str))) p2 = some (.lst (Lx.map V.str)) := upd_same
    generalize upd H4 p2 (.lst (Lx.map V.str)) = H5 at m5 e5
    have eS5 := m5.lst (m4.lst1 nSb (m3.lst e2))
    refine ⟨S, p2, _, _, rfl, rfl, eS5, e5, ?_, fun S3 hS3 => ?_⟩
    · rw [List.length_map, List.length_map]
      exact small_sz (by omega)
    have m6 : Mod T [] H5 (upd H5 S3 (.lst (L1.map V.str ++ Lx.map V.str))) := Mod.new hS3
    have e6 : (upd H5 S3 (.lst (L1.map V.str ++ Lx.map V.str))) S3 = some (.lst ((L1 ++ Lx).map V.str)) := by
      rw [upd_same, List.map_append]
    generalize upd H5 S3 (.lst (L1.map V.str ++ Lx.map V.str)) = H6 at m6 e6
    have lL : (L1 ++ Lx).length ≤ 61 := by
      rw [List.length_append]
      omega
    have gL : ∀ x ∈ L1 ++ Lx, Gd 30 x := fun x hx => by
      rcases List.mem_append.mp hx with hx | hx
      · exact g2 x hx
      · exact g77 x hx
    have aL : ∀ x ∈ L1 ++ Lx, ∀ c ∈ x.cps.toList, c < 128 := fun x hx => (gL x hx).2
    generalize L1 ++ Lx = L at e6 lL gL aL
    have hb6 := (hb4.mod m5).mod m6
    have m06 : Mod T [b] H H6 := ((m02.trans m3).any.trans m4).trans (m5.trans m6).any
    have nS3 := (hb4.mod m5).new hS3
    clear g2 g77 l77 eS5 e5 e34 e2
    -- paths, steps
    refine ⟨(by show 5 ≤ sizeLine; decide), fun pa hpa => ?_⟩
    have m7 : Mod T [] H6 (upd H6 pa (.lst (pathsL.map V.str))) := Mod.new hpa
    have e7 : (upd H6 pa (.lst (pathsL.map V.str))) pa = some (.lst (pathsL.map V.str)) := upd_same
    have npa := hb6.new hpa
    refine ⟨Nat.zero_le _, fun st hst => ?_⟩
    have hst : (upd H6 pa (.lst (pathsL.map V.str))) st = none := hst
    have m8 : Mod T [] (upd H6 pa (.lst (pathsL.map V.str))) (upd (upd H6 pa (.lst (pathsL.map V.str))) st (.lst [])) := Mod.new hst
    have e8 : (upd (upd H6 pa (.lst (pathsL.map V.str))) st (.lst [])) st = some (.lst []) := upd_same
    refine ⟨_, _, rfl, ?_⟩
    show tSeq _ _ _ _ (upd (upd H6 pa (.lst (pathsL.map V.str))) st (.lst []))
    generalize upd H6 pa (.lst (pathsL.map V.str)) = H7 at m7 e7 hst m8 e8
    have nst := (hb6.mod m7).new hst
    have npst : pa ≠ st := fun z => by
      rw [← z, e7] at hst
      cases hst
    have nS3st : S3 ≠ st := fun z => by
      rw [← z, m7.lst e6] at hst
      cases hst
    generalize upd H7 st (.lst []) = H8 at m8 e8
    have hb8 := (hb6.mod m7).mod m8
    have m08 : Mod T [b] H H8 := m06.trans (m7.trans m8).any
    have nHst : H st = none := m06.old st (m7.old st hst)
    -- for turn in range(..)
    refine ⟨fun v H' => ∃ n : Nat, v = .int (n : Nat) ∧ n ≤ 3 ∧ Mod T [b] H8 H' ∧ BagAt H' b l ∧ (n = 0 ∨ 0 < L.length), ?_, ?_⟩
    · refine ⟨_, rfl, Nat.zero_le _, fun z hz => ?_⟩
      have m9 : Mod T [] H8 (upd H8 z (.lst [])) := Mod.new hz
      have e9 : (upd H8 z (.lst [])) z = some (.lst []) := upd_same
      generalize upd H8 z (.lst []) = H9 at m9 e9
      refine ne_nil (((m7.trans m8).trans m9).lst e6) e9 aL ⟨_, rfl, ?_⟩
      refine ite2 (fun h => ?_) (fun _ => ⟨0, rfl, by omega, m9.any, hb8.mod m9, .inl rfl⟩)
      refine ⟨_, rfl, b, l, 4, rfl, by decide, by decide, hb8.mod m9, fun H10 v m10 hb10 hv => ⟨v, rfl, by omega, m9.any.trans m10, hb10, .inr ?_⟩⟩
      cases L with
      | nil => cases h
      | cons _ _ => exact Nat.succ_pos _
    rintro v H9 ⟨n, rfl, hn, m9, hb9, hnL⟩
    refine ⟨_, rfl, by omega, by omega, ?_⟩
    rw [Int.toNat_natCast]
    refine for_range (n := n) (fun i σ' H' => ∃ (y6 y7 : Option V) (us : List Addr), σ' = [some (.ref b), some (.ref a), some (.ref S3), none, some (.ref pa), some (.ref st), y6, y7, none] ∧ Mod T [b] H H' ∧ BagAt H' b l ∧ H' S3 = some (.lst (L.map V.str)) ∧ H' pa = some (.lst (pathsL.map V.str)) ∧ H' st = some (.lst (us.map V.ref)) ∧ us.length ≤ i ∧ ∀ u ∈ us, StepAt H' u)
      ⟨none, none, [], rfl, m08.trans m9, hb9, m9.lst1 nS3 ((m7.trans m8).lst e6), m9.lst1 npa (m8.lst e7), m9.lst1 nst e8, Nat.zero_le _, fun u hu => by cases hu⟩ (fun i σ' H' hi ⟨y6, y7, us, es, m, hb', eS, ep, et, lu, su⟩ => ?_) (fun σ' H' ⟨y6, y7, us, es, m, hb', eS, ep, et, lu, su⟩ => ?_)
    · subst es
      refine ⟨_, rfl, _, rfl, b, l, pa, _, rfl, hb', ep, npa, by show 0 < 5; decide, by show 5 < 1000000; decide, fun H10 x m10 hb10 hx => ?_⟩
      obtain ⟨pth, hpth, rfl⟩ := List.mem_map.mp hx
      have gp := pathsL_gd pth hpth
      have stepMp : ∀ {G G' : Hp} {u : Addr}, (∀ t xs, G t = some (.tup xs) → G' t = some (.tup xs)) → StepAt G u → StepAt G' u := fun k ⟨ws, h1, h2⟩ => ⟨ws, k _ _ h1, h2⟩
      refine ⟨.ref st, rfl, .inl ⟨rfl, _, SqL.of (m10.lst1 nst et)⟩, ?_⟩
      refine ⟨fun v H' => ∃ u, v = .ref u ∧ Mod T [b] H10 H' ∧ BagAt H' b l ∧ StepAt H' u, ?_, ?_⟩
      · refine ⟨_, rfl, b, l, 3, rfl, by decide, by decide, hb10, fun H11 v m11 hb11 hv => ?_⟩
        refine ⟨rfl, _, rfl, ?_⟩
        refine ite2 (fun _ => ?_) (fun _ => ?_)
        · refine ⟨_, rfl, (by show 2 ≤ sizeLine; decide), fun u hu => ?_⟩
          have m12 : Mod T [] H11 (upd H11 u (.tup [.str (Str.ofString "drop"), .str pth])) := Mod.new hu
          refine ⟨u, rfl, m11.trans m12.any, hb11.mod m12, [Str.ofString "drop", pth], upd_same, by show 2 ≤ 3; decide, fun x hx => ?_⟩
          simp only [List.mem_cons, List.not_mem_nil, or_false] at hx
          rcases hx with rfl | rfl
          · exact gd_of (by decide +kernel) (by decide +kernel)
          · exact gp
        · have hLpos : 0 < L.length := by
            rcases hnL with h | h
            · omega
            · exact h
          refine ⟨_, rfl, _, rfl, _, rfl, b, l, S3, _, rfl, hb11, (m10.trans m11).lst1 nS3 eS, nS3, by rw [List.length_map]; exact hLpos, by rw [List.length_map]; omega, fun H12 x m12 hb12 hx => ?_⟩
          obtain ⟨sh, hsh, rfl⟩ := List.mem_map.mp hx
          refine ⟨(by show 3 ≤ sizeLine; decide), fun u hu => ?_⟩
          have m13 : Mod T [] H12 (upd H12 u (.tup [.str (Str.ofString "put"), .str pth, .str sh])) := Mod.new hu
          refine ⟨u, rfl, (m11.trans m12).trans m13.any, hb12.mod m13, [Str.ofString "put", pth, sh], upd_same, by show 3 ≤ 3; decide, fun x hx => ?_⟩
          simp only [List.mem_cons, List.not_mem_nil, or_false] at hx
          rcases hx with rfl | rfl | rfl
          · exact gd_of (by decide +kernel) (by decide +kernel)
          · exact gp
          · exact gL _ hsh
      · rintro v H11 ⟨u, rfl, m11, hb11, hu⟩
        have mm := m10.trans m11
        have et11 := mm.lst1 nst et
        have kt := kt_upd (o := .lst (us.map V.ref ++ [V.ref u])) et11 (fun _ z => by cases z)
        refine ⟨st, _, _, rfl, rfl, et11, by rw [List.length_map]; exact small_lt (by omega), ?_⟩
        refine ⟨_, _, us ++ [u], rfl, (m.trans mm).own nHst et11 pl_lst, hb11.own hb nHst, ?_, ?_, ?_, ?_, fun u' hu' => ?_⟩
        · rw [upd_ne nS3st]
          exact mm.lst1 nS3 eS
        · rw [upd_ne npst]
          exact mm.lst1 npa ep
        · rw [upd_same, List.map_append]
          rfl
        · rw [List.length_append]
          exact Nat.succ_le_succ lu
        · rcases List.mem_append.mp hu' with h | h
          · exact stepMp kt (stepMp (kt_mod1 mm hb') (su u' h))
          · rw [List.mem_singleton.mp h]
            exact stepMp kt hu
    · subst es
      -- the text
      have stepMp : ∀ {G G' : Hp} {u : Addr}, (∀ t xs, G t = some (.tup xs) → G' t = some (.tup xs)) → StepAt G u → StepAt G' u := fun k ⟨ws, h1, h2⟩ => ⟨ws, k _ _ h1, h2⟩
      refine ⟨_, rfl, st, _, rfl, .inl ⟨SqL.of et, fun ts hts => ?_⟩⟩
      have n1 : Mod T [] H' (upd H' ts (.tup (us.map V.ref))) := Mod.new hts
      have f1 : (upd H' ts (.tup (us.map V.ref))) ts = some (.tup (us.map V.ref)) := upd_same
      generalize upd H' ts (.tup (us.map V.ref)) = G1 at n1 f1
      refine ⟨_, rfl, _, rfl, (by show 1 ≤ sizeLine; decide), fun q1 hq1 => ?_⟩
      have n2 : Mod T [] G1 (upd G1 q1 (.lst [.str (Str.ofString "store/c0")])) := Mod.new hq1
      have f2 : (upd G1 q1 (.lst [.str (Str.ofString "store/c0")])) q1 = some (.lst [.str (Str.ofString "store/c0")]) := upd_same
      generalize upd G1 q1 (.lst [.str (Str.ofString "store/c0")]) = G2 at n2 f2
      refine ⟨_, rfl, Nat.zero_le _, fun z hz => ?_⟩
      have n3 : Mod T [] G2 (upd G2 z (.lst [])) := Mod.new hz
      have f3 : (upd G2 z (.lst [])) z = some (.lst []) := upd_same
      generalize upd G2 z (.lst []) = G3 at n3 f3
      have n13 := (n1.trans n2).trans n3
      refine eq_nil (n13.lst eS) f3 aL ?_
      refine .inr ⟨_, rfl, q1, _, _, rfl, rfl, n3.lst f2, rep_lo _, rep_hi _, rep_sz _, fun q2 hq2 => ?_⟩
      rw [rep_one]
      have gx0 : Gd 30 (Str.ofString "store/c0") := gd_of (by decide +kernel) (by decide +kernel)
      have g0 := rep_gd L.isEmpty gx0
      have l0 := rep_len L.isEmpty (Str.ofString "store/c0")
      have posL : 0 < (L ++ ((if L.isEmpty = true then [Str.ofString "store/c0"] else []) : List Str)).length := by
        cases L with
        | nil => decide
        | cons _ _ => exact Nat.succ_pos _
      generalize ((if L.isEmpty = true then [Str.ofString "store/c0"] else []) : List Str) = Ly at g0 l0 posL
      have n4 : Mod T [] G3 (upd G3 q2 (.lst (Ly.map V.str))) := Mod.new hq2
      have f4 : (upd G3 q2 (.lst (Ly.map V.str))) q2 = some (.lst (Ly.map V.str)) := upd_same
      generalize upd G3 q2 (.lst (Ly.map V.str)) = G4 at n4 f4
      refine ⟨S3, q2, _, _, rfl, rfl, (n13.trans n4).lst eS, f4, ?_, fun q3 hq3 => ?_⟩
      · rw [List.length_map, List.length_map]
        exact small_sz (by omega)
      have n5 : Mod T [] G4 (upd G4 q3 (.lst (L.map V.str ++ Ly.map V.str))) := Mod.new hq3
      have f5 : (upd G4 q3 (.lst (L.map V.str ++ Ly.map V.str))) q3 = some (.lst ((L ++ Ly).map V.str)) := by
        rw [upd_same, List.map_append]
      have hb5 := hb'.mod (n13.trans n4)
      have nq3 := hb5.new hq3
      generalize upd G4 q3 (.lst (L.map V.str ++ Ly.map V.str)) = G5 at n5 f5
      have n15 := (n13.trans n4).trans n5
      have hb15 := hb'.mod n15
      refine ⟨b, l, q3, _, rfl, hb15, f5, nq3, by rw [List.length_map]; exact posL, by rw [List.length_map, List.length_append]; omega, fun G6 x n6 hbG6 hx => ?_⟩
      obtain ⟨lkk, hlk, rfl⟩ := List.mem_map.mp hx
      have glk : Gd 30 lkk := by
        rcases List.mem_append.mp hlk with h | h
        · exact gL _ h
        · exact g0 _ h
      refine ⟨(by show 2 ≤ sizeLine; decide), fun g hg => ?_⟩
      have n7 : Mod T [] G6 (upd G6 g (.tup [.ref ts, .str lkk])) := Mod.new hg
      have f7 : (upd G6 g (.tup [.ref ts, .str lkk])) g = some (.tup [.ref ts, .str lkk]) := upd_same
      generalize upd G6 g (.tup [.ref ts, .str lkk]) = G7 at n7 f7
      have mAll : Mod T [b] H' G7 := (n15.any.trans n6).trans n7.any
      have ft : G7 ts = some (.tup (us.map V.ref)) := n7.tup (n6.tup1 hb15 ((((n2.trans n3).trans n4).trans n5).tup f1))
      refine ⟨g, ts, us, lkk, rfl, f7, ft, by omega, fun u hu => stepMp (kt_mod1 mAll hb') (su u hu), glk, fun G8 txt n8 gt => ?_⟩
      have hb8' := (hbG6.mod n7).mod n8
      have mAll8 : Mod T [b] H G8 := (m.trans mAll).trans n8.any
      -- the answer
      refine ⟨_, rfl, b, l, 4, rfl, by decide, by decide, hb8', fun G9 v n9 hb9' hv => ?_⟩
      refine ⟨_, _, rfl, rfl, _, rfl, ?_⟩
      refine ite2 (fun _ => ?_) (fun _ => ?_)
      · exact ⟨_, rfl, q G9 txt (mAll8.trans n9) hb9' (gt.mono (by decide))⟩
      · have lt := gt.1
        refine ⟨_, rfl, _, rfl, _, rfl, txt, rfl, small_sz (by omega), _, _, rfl, rfl, ?_⟩
        refine ⟨b, l, txt.length + 1, rfl, by omega, by omega, hb9', fun G10 v n10 hb10' hv => ?_⟩
        refine ⟨_, rfl, txt, rfl, small_sz (by omega), ?_⟩
        refine ⟨_, rfl, (by show 3 ≤ sizeLine; decide), fun o1 ho1 => ?_⟩
        have n11 : Mod T [] G10 (upd G10 o1 (.lst [.str (Str.ofString ""), .str (Str.ofString "x"), .str (Str.ofString "\n")])) := Mod.new ho1
        have f11 : (upd G10 o1 (.lst [.str (Str.ofString ""), .str (Str.ofString "x"), .str (Str.ofString "\n")])) o1 = some (.lst [.str (Str.ofString ""), .str (Str.ofString "x"), .str (Str.ofString "\n")]) := upd_same
        generalize upd G10 o1 (.lst [.str (Str.ofString ""), .str (Str.ofString "x"), .str (Str.ofString "\n")]) = G11 at n11 f11
        have no1 := hb10'.new ho1
        refine ⟨b, l, o1, _, rfl, hb10'.mod n11, f11, no1, by show 0 < 3; decide, by show 3 < 1000000; decide, fun G12 x n12 hb12' hx => ?_⟩
        obtain ⟨z, rfl, gz⟩ : ∃ z, x = .str z ∧ Gd 1 z := by
          simp only [List.mem_cons, List.not_mem_nil, or_false] at hx
          rcases hx with rfl | rfl | rfl
          · exact ⟨_, rfl, gd_of (by decide +kernel) (by decide +kernel)⟩
          · exact ⟨_, rfl, gd_of (by decide +kernel) (by decide +kernel)⟩
          · exact ⟨_, rfl, gd_of (by decide +kernel) (by decide +kernel)⟩
        have gc : Gd 600 (takeS v txt) := gd_takeS gt
        refine ⟨_, z, rfl, rfl, ?_, q G12 _ (((mAll8.trans n9).trans n10).trans (n11.any.trans n12)) hb12' ((gd_app gc gz).mono (by decide))⟩
        have h1 := gc.1
        have h2 := gz.1
        show (takeS v txt).length + z.length ≤ sizeLine
        exact small_sz (by omega)
end Pw

set_option maxHeartbeats 4000000
namespace Pw
open PySem PySem.Spec PyProof.Rows L2 LamX
variable {P : Program} {w : World} {K : PySem.W.Frag} {mg : Str → Option Value} {base : Heap} {T : List (Addr × Str)}
theorem cutV_mem {xs : List V} {lo hi : Option Int} {x : V} (h : x ∈ cutV xs lo hi) : x ∈ xs := List.mem_of_mem_drop (List.mem_of_mem_take h)
theorem cutV_to_len (xs : List V) (m : Nat) : (cutV xs none (some (m : Int))).length ≤ m := by
  unfold cutV
  rw [HT.sIx_none, HT.sIx_nat, List.length_take]
  omega
def mergeF (acc l : Fs) : Fs := l.foldl (fun a kv => put a kv.1 kv.2) acc
theorem merge_any : ∀ (l acc : Fs), mergeK (dS acc) (dS l) = dS (mergeF acc l)
  | [], acc => rfl
  | (k, v) :: l, acc => by
    have e2 : putK (dS acc) (Sum.inr k) (V.str v) = dS (put acc k v) := put_dk (f := V.str) acc k v
    show mergeK (putK (dS acc) (Sum.inr k) (V.str v)) (dS l) = _
    rw [e2, merge_any l (put acc k v)]
    rfl
theorem mergeF_ok : ∀ (l acc : Fs) {n : Nat}, FOk n acc → (∀ q ∈ l, Gd 26 q.1 ∧ Gd 1000 q.2) → FOk (n + l.length) (mergeF acc l)
  | [], acc, n, h, _ => h
  | (k, v) :: l, acc, n, h, g => by
    have gk := g (k, v) List.mem_cons_self
    have := mergeF_ok l (put acc k v) (h.put gk.1 gk.2) fun q hq => g q (List.mem_cons_of_mem _ hq)
    exact this.mono (by rw [List.length_cons]; omega)
theorem pairs_of {H : Hp} {fs : Fs} {ts : List Addr} : ∀ {ys : List V}, (∀ y ∈ ys, ∃ t kv, y = .ref t ∧ PairAt H t kv ∧ kv ∈ fs) → ∃ (ps : List Addr) (gs : Fs), ys = ps.map V.ref ∧ Paired (fun t kv => PairAt H t kv) ps gs ∧ ∀ kv ∈ gs, kv ∈ fs
  | [], _ => ⟨[], [], rfl, .nil, fun kv h => by cases h⟩
  | y :: r, h => by
    obtain ⟨ps, gs, e, p, g⟩ := pairs_of (ts := ts) (ys := r) fun z hz => h z (List.mem_cons_of_mem _ hz)
    obtain ⟨t, kv, rfl, h1, h2⟩ := h y List.mem_cons_self
    exact ⟨t :: ps, kv :: gs, by rw [e]; rfl, .cons h1 p, fun k hk => by
      rcases List.mem_cons.mp hk with rfl | hk
      · exact h2
      · exact g k hk⟩
def contL : List Str := ["", "x", "go", "a\nb", "before", "x", "yy"]
def litL : List Str := ["tree/old", "tree/z/z", "mine", "store/new", "store/c01", "store/c-1", "gen/new", "gen", "tree"]
theorem all_gd {n : Nat} {L : List Str} (h : L.all (fun s => decide (s.length ≤ n) && s.cps.all (· < 128)) = true) : ∀ s ∈ L, Gd n s := by
  intro s hs
  have := List.all_eq_true.mp h s hs
  rw [Bool.and_eq_true] at this
  exact gd_of (of_decide_eq_true this.1) this.2
theorem contL_gd : ∀ s ∈ contL, Gd 1000 s := all_gd (by decide +kernel)
theorem litL_gd : ∀ s ∈ litL, Gd 26 s := all_gd (by decide +kernel)
structure DSt (T : List (Addr × Str)) (b l ct fd : Addr) (H H' : Hp) (n : Nat) : Prop where
  mod : Mod T [b] H H'
  bag : BagAt H' b l
  ctl : H' ct = some (.lst (contL.map V.str))
  fs : ∃ fs : Fs, H' fd = some (.dK (dS fs)) ∧ FOk n fs
theorem DSt.step {b l ct fd : Addr} {H H' H2 : Hp} {n : Nat} (x : DSt T b l ct fd H H' n) (m : Mod T [b] H' H2) (hb : BagAt H2 b l) (h1 : ct ≠ b) : DSt T b l ct fd H H2 n := by
  obtain ⟨fs, e1, e2⟩ := x.fs
  exact ⟨x.mod.trans m, hb, m.lst1 h1 x.ctl, fs, m.dK1 x.bag e1, e2⟩
theorem DSt.new {b l ct fd : Addr} {H H' H2 : Hp} {n : Nat} (x : DSt T b l ct fd H H' n) (m : Mod T [] H' H2) : DSt T b l ct fd H H2 n := by
  obtain ⟨fs, e1, e2⟩ := x.fs
  exact ⟨x.mod.trans m.any, x.bag.mod m, m.lst x.ctl, fs, m.dK e1, e2⟩
theorem DSt.mono {b l ct fd : Addr} {H H' : Hp} {n k : Nat} (x : DSt T b l ct fd H H' n) (h : n ≤ k) : DSt T b l ct fd H H' k := by
  obtain ⟨fs, e1, e2⟩ := x.fs
  exact ⟨x.mod, x.bag, x.ctl, fs, e1, e2.mono h⟩
theorem DSt.put {b l ct fd : Addr} {H H' : Hp} {n : Nat} {k c : Str} (x : DSt T b l ct fd H H' n) (hb : BagAt H b l) (hfd : H fd = none) (hn : n ≤ 1000) (gk : Gd 26 k) (gc : Gd 1000 c) :
    ∃ o, DPut H' fd (.str k) (.str c) (upd H' fd o) ∧ DSt T b l ct fd H (upd H' fd o) (n + 1) ∧ ∀ t xs, H' t = some (.lst xs) → upd H' fd o t = some (.lst xs) := by
  obtain ⟨fs, e1, e2⟩ := x.fs
  have := e2.len
  exact ⟨_, dput_of e1 k c (small_lt (by omega)), ⟨x.mod.own hfd e1 pl_dK, x.bag.own hb hfd, upd_lst e1 (fun _ z => by cases z) x.ctl, Pw.put fs k c, upd_same, e2.put gk gc⟩, fun t xs e => upd_lst e1 (fun _ z => by cases z) e⟩
def spDFiles (T : List (Addr × Str)) : Sp := fun vs H Q _ => ∃ (b l r : Addr), vs = [.ref b, .ref r] ∧ BagAt H b l ∧ RegAt H r ∧ ∀ (H' : Hp) (p : Addr) (fs : Fs), Mod T [b] H H' → BagAt H' b l → H p = none → FsAt H' p fs → FOk 40 fs → Q (.ref p) H'
abbrev nDFiles : List Str := ["_law_bag_here", "_law_registry", "_law_contents", "_law_found", "_law_pack", "_law_path", "_law_content", "_law_number"]
theorem sc_dfiles : FnScope nDFiles ["_law_bag_here", "_law_registry"] (defScope s_law_drawn_files) := ⟨rfl, rfl, rfl, by decide +kernel, rfl, by decide +kernel, by decide +kernel⟩
theorem ok_dfiles (D : PwDef K mg "_law_drawn_files" s_law_drawn_files) (cM : Cal P w K mg base 2 "_law_mixed" (spMixed T) []) (cO : Cal P w K mg base 2 "_law_one" (spOne T) []) (cT : Cal P w K mg base 1 "_law_take" (spTake T) []) (cP : Cal P w K mg base 3 "_law_some_plan" (spPlan T) [])
    (cK : Cal P w K mg base 1 "_law_lock_text" (spLock T) []) (cD : Cal P w K mg base 3 "_law_drawn_log" (spDLog T) []) (mstr : mg "str" = none) (mli : mg "list" = none) (md : mg "dict" = none) : Cal P w K mg base 4 "_law_drawn_files" (spDFiles T) [] := by
  refine cal_of D sc_dfiles (fun _ _ _ _ _ _ us hl => match us, hl with | [_, _], _ => rfl) (fun vs H Q E h => ?_) (fun f cdv A outer s H vs Q E hr h => ?_)
  · obtain ⟨b, l, r, rfl, _⟩ := h
    rfl
  · obtain ⟨b, l, r, rfl, hb, ⟨tp, te, packs, er, etp, lpk, hpk⟩, q⟩ := h
    refine ⟨_, pss_cons (ps_par (i := 2) (j := 3) (by rfl) sc_dfiles.nd rfl rfl (by decide) rfl rfl (pa_cons (pe_lst (pa_cons pe_str (pa_cons pe_str (pa_cons pe_str (pa_cons pe_str (pa_cons pe_str (pa_cons pe_str (pa_cons pe_str pa_nil)))))))) (pa_cons pe_dnewK pa_nil)) (by rfl))
      (C8.pss_cut (ps_for PassesOwn.never rfl (pi_tup (pe_ix ix_tup (pv 1) pe_int (fun _ _ => rfl))) (pg_name (i := 4) sc_dfiles.nd rfl (.inl rfl))
        (pss_one (ps_for PassesOwn.never rfl (pi_tup (pe_ix ix_tup (pv 4) pe_int (fun _ _ => rfl))) (pg_tup rfl (pgs_cons (pg_name (i := 5) sc_dfiles.nd rfl (.inl rfl)) (pgs_cons (pg_name (i := 6) sc_dfiles.nd rfl (.inl rfl)) pgs_nil)))
          (pss_one (ps_if (pt_cmpR op_eq (C8.pe_c cT hr (by decide) rfl (pa_cons (pv 0) (pa_cons pe_int pa_nil))) pe_int (nomark _))
            (pss_one (ps_dput (hu_of hr) (pv 3) (pe_op op_add_str pe_str (pv 5)) (pe_cutE (pe_ifExp (pt_cmpR op_gt (C8.pe_c cT hr (by decide) rfl (pa_cons (pv 0) (pa_cons pe_int pa_nil))) pe_int (nomark _)) (pv 6) (C8.pe_c cO hr (by decide) rfl (pa_cons (pv 0) (pa_cons (pv 2) pa_nil))))) rfl)) pss_nil)))))
      (C8.pss_cut (ps_for PassesOwn.never rfl (pi_list (pe_lst (pa_cons pe_str (pa_cons pe_str (pa_cons pe_str (pa_cons pe_str (pa_cons pe_str (pa_cons pe_str (pa_cons pe_str (pa_cons pe_str (pa_cons pe_str pa_nil))))))))))) (pg_name (i := 5) sc_dfiles.nd rfl (.inl rfl))
        (pss_one (ps_if (pt_cmpR op_eq (C8.pe_c cT hr (by decide) rfl (pa_cons (pv 0) (pa_cons pe_int pa_nil))) pe_int (nomark _))
          (pss_one (ps_dput (hu_of hr) (pv 3) (pv 5) (C8.pe_c cO hr (by decide) rfl (pa_cons (pv 0) (pa_cons (pv 2) pa_nil))) rfl)) pss_nil)))
      (C8.pss_cut (ps_for PassesOwn.never rfl (pi_list (pe_slice sl_list (C8.pe_c cM hr (by decide) rfl (pa_cons (pv 0) (pa_cons (pe_lst (pa_cons pe_int (pa_cons pe_int (pa_cons pe_int (pa_cons pe_int (pa_cons pe_int pa_nil)))))) pa_nil))) po_none (po_some (C8.pe_c cT hr (by decide) rfl (pa_cons (pv 0) (pa_cons pe_int pa_nil)))))) (pg_name (i := 7) sc_dfiles.nd rfl (.inl rfl))
        (pss_one (ps_dput (hu_of hr) (pv 3) (pe_op op_add_str pe_str (pe_callTy call_str_int (by rfl) mstr (by decide +kernel) (pa_cons (pv 7) pa_nil)))
          (C8.pe_c cO hr (by decide) rfl (pa_cons (pv 0) (pa_cons (pe_op op_cat (pv 2) (pe_lst (pa_cons (C8.pe_c cK hr (by decide) rfl (pa_cons (C8.pe_c cP hr (by decide) rfl (pa_cons (pv 0) (pa_cons (pv 1) pa_nil))) pa_nil)) pa_nil))) pa_nil))) rfl)))
      (C8.pss_cut (ps_if (pt_cmpR op_gt (C8.pe_c cT hr (by decide) rfl (pa_cons (pv 0) (pa_cons pe_int pa_nil))) pe_int (nomark _))
        (pss_one (ps_dput (hu_of hr) (pv 3) pe_str (C8.pe_c cO hr (by decide) rfl (pa_cons (pv 0) (pa_cons (pe_lst (pa_cons pe_str (pa_cons (C8.pe_c cK hr (by decide) rfl (pa_cons (C8.pe_c cP hr (by decide) rfl (pa_cons (pv 0) (pa_cons (pv 1) pa_nil))) pa_nil)) pa_nil))) pa_nil))) rfl)) pss_nil)
      (C8.pss_cut (ps_if (pt_cmpR op_eq (C8.pe_c cT hr (by decide) rfl (pa_cons (pv 0) (pa_cons pe_int pa_nil))) pe_int (nomark _))
        (pss_one (ps_dput (hu_of hr) (pv 3) pe_str (C8.pe_c cD hr (by decide) rfl (pa_cons (pv 0) (pa_cons (pv 3) pa_nil))) rfl)) pss_nil)
      (C8.pss_cut (ps_if (pt_cmpR op_eq (C8.pe_c cT hr (by decide) rfl (pa_cons (pv 0) (pa_cons pe_int pa_nil))) pe_int (nomark _))
        (pss_one (ps_dput (hu_of hr) (pv 3) pe_str (C8.pe_c cO hr (by decide) rfl (pa_cons (pv 0) (pa_cons (pe_lst (pa_cons pe_str (pa_cons pe_str (pa_cons (C8.pe_c cD hr (by decide) rfl (pa_cons (pv 0) (pa_cons (pv 3) pa_nil))) pa_nil)))) pa_nil))) rfl)) pss_nil)
      (pss_one (ps_ret (pe_callTy (call_dictP rfl) (by rfl) md (by decide +kernel) (pa_cons (C8.pe_c cM hr (by decide) rfl (pa_cons (pv 0) (pa_cons (LiI.pe_listItems rfl (pv 3) rfl mli (by decide +kernel)) pa_nil))) pa_nil)))))))))), ?_⟩
    refine ⟨(by show 7 ≤ sizeLine; decide), fun ct hct => ?_⟩
    have m0 : Mod T [] H (upd H ct (.lst (contL.map V.str))) := Mod.new hct
    have e0 : (upd H ct (.lst (contL.map V.str))) ct = some (.lst (contL.map V.str)) := upd_same
    have nct := hb.new hct
    refine fun fd hfd0 => ?_
    have hfd0 : (upd H ct (.lst (contL.map V.str))) fd = none := hfd0
    have m1 : Mod T [] (upd H ct (.lst (contL.map V.str))) (upd (upd H ct (.lst (contL.map V.str))) fd (.dK [])) := Mod.new hfd0
    have e1 : (upd (upd H ct (.lst (contL.map V.str))) fd (.dK [])) fd = some (.dK (dS [])) := upd_same
    refine ⟨_, _, rfl, ?_⟩
    show C8.tCut _ _ _ _ (upd (upd H ct (.lst (contL.map V.str))) fd (.dK []))
    generalize upd H ct (.lst (contL.map V.str)) = H1 at m0 e0 hfd0 m1 e1
    generalize upd H1 fd (.dK []) = H2 at m1 e1
    have hfd : H fd = none := m0.old fd hfd0
    have m02 := m0.trans m1
    have ktH : ∀ {H' : Hp} {n : Nat}, DSt T b l ct fd H H' n → ∀ t xs, H t = some (.tup xs) → H' t = some (.tup xs) := fun x => kt_mod1 x.mod hb
    have st2 : DSt T b l ct fd H H2 0 := ⟨m02.any, hb.mod m02, m1.lst e0, [], e1, ⟨.nil, Nat.le_refl _, fun q h => by cases h⟩⟩
    have lct : contL.length = 7 := rfl
    clear m0 e0 m1 e1 m02 hfd0
    -- one of the contents
    have oneC : ∀ {x : V}, x ∈ contL.map V.str → ∃ c, x = .str c ∧ Gd 1000 c := fun hx => by
      obtain ⟨c, hc, rfl⟩ := List.mem_map.mp hx
      exact ⟨c, rfl, contL_gd c hc⟩
    refine ⟨fun σ' H' => ∃ y4 y5 y6 y7, σ' = [some (.ref b), some (.ref r), some (.ref ct), some (.ref fd), y4, y5, y6, y7] ∧ DSt T b l ct fd H H' 24, ?_, ?_⟩
    · refine ⟨_, rfl, r, _, 0, .ref tp, rfl, rfl, SqT.of (ktH st2 _ _ er), atI_nat (j := 0) rfl, tp, rfl, ⟨_, SqT.of (ktH st2 _ _ etp)⟩, ?_⟩
      refine for_it (walk_tup (xs := packs.map V.ref)) (fun i σ' H' => ∃ y4 y5 y6, σ' = [some (.ref b), some (.ref r), some (.ref ct), some (.ref fd), y4, y5, y6, none] ∧ DSt T b l ct fd H H' (4 * i)) ⟨none, none, none, rfl, st2⟩ (fun i σ' H' _ ⟨_, _, _, _, x⟩ => SqT.of (ktH x _ _ etp)) (fun i x σ' H' H'' hi hp hy => ?_) (fun σ' H' hp => ?_)
      · obtain ⟨y4, y5, y6, es, st⟩ := hp
        subst es
        obtain ⟨rfl, hx⟩ := hy
        obtain ⟨u, hu, rfl⟩ := Option.map_eq_some_iff.mp ((List.getElem?_map (f := V.ref) ▸ hx : _))
        have hi6 := (List.getElem?_eq_some_iff.mp hu).1
        obtain ⟨nm, tv, tf, tl, v1, v2, v3, v4, fe, fa, rows, eu, gn, vt, etf, lfe, hfe, etl, prs, lrs, grs⟩ := (hpk u (List.mem_of_getElem? hu)).ex
        have lfa := paired_len prs
        refine ⟨_, rfl, u, _, 7, .ref tl, rfl, rfl, SqT.of (ktH st _ _ eu), atI_nat (j := 7) rfl, tl, rfl, ⟨_, SqT.of (ktH st _ _ etl)⟩, ?_⟩
        refine for_it (walk_tup (xs := fa.map V.ref)) (fun j σ' H' => ∃ y5 y6, σ' = [some (.ref b), some (.ref r), some (.ref ct), some (.ref fd), some (.ref u), y5, y6, none] ∧ DSt T b l ct fd H H' (4 * i + j)) ⟨y5, y6, rfl, st⟩ (fun j σ' H' _ ⟨_, _, _, x⟩ => SqT.of (ktH x _ _ etl)) (fun j x σ' H3 H4 hj hp hy => ?_) (fun σ' H3 hp => ?_)
        · obtain ⟨y5, y6, es, st3⟩ := hp
          subst es
          obtain ⟨rfl, hx⟩ := hy
          obtain ⟨t, ht, rfl⟩ := Option.map_eq_some_iff.mp ((List.getElem?_map (f := V.ref) ▸ hx : _))
          have hj4 := (List.getElem?_eq_some_iff.mp ht).1
          obtain ⟨kv, hkv, ekv⟩ := paired_get' prs ht
          obtain ⟨g1, g2⟩ := grs kv (List.mem_of_getElem? hkv)
          refine ⟨t, _, rfl, SqT.of (ktH st3 _ _ ekv), rfl, _, _, rfl, _, _, rfl, rfl, ?_⟩
          refine ⟨_, rfl, b, l, 2, rfl, by decide, by decide, st3.bag, fun H5 v m5 hb5 hv => ?_⟩
          have st5 := st3.step m5 hb5 nct
          refine ⟨rfl, _, rfl, ?_⟩
          refine ite2 (fun _ => ?_) (fun _ => ⟨_, _, rfl, st5.mono (by omega)⟩)
          refine ⟨fun v H' => ∃ c, v = .str c ∧ Gd 1000 c ∧ DSt T b l ct fd H H' (4 * i + j), ?_, ?_⟩
          · refine ⟨_, rfl, b, l, 3, rfl, by decide, by decide, hb5, fun H6 v m6 hb6 hv => ?_⟩
            have st6 := st5.step m6 hb6 nct
            refine ⟨_, _, rfl, rfl, _, rfl, ?_⟩
            refine ite2 (fun _ => ⟨_, rfl, _, rfl, g2.mono (by decide), st6⟩) (fun _ => ?_)
            refine ⟨_, rfl, _, rfl, b, l, ct, _, rfl, hb6, st6.ctl, nct, by show 0 < 7; decide, by show 7 < 1000000; decide, fun H7 x m7 hb7 hx => ?_⟩
            obtain ⟨c, rfl, gc⟩ := oneC hx
            exact ⟨c, rfl, gc, st6.step m7 hb7 nct⟩
          · rintro v H6 ⟨c, rfl, gc, st6⟩
            have gt : Gd 5 (Str.ofString "tree/") := gd_of (by decide +kernel) (by decide +kernel)
            obtain ⟨o, hput, st7, _⟩ := st6.put hb hfd (by omega) ((gd_app gt g1).mono (by decide)) gc
            have l1 := gt.1
            have l2 := g1.1
            refine ⟨_, rfl, _, rfl, _, kv.1, rfl, rfl, small_sz (by omega), fd, _, rfl, hput, ?_⟩
            exact ⟨_, _, rfl, st7⟩
        · obtain ⟨y5, y6, es, st3⟩ := hp
          subst es
          refine ⟨_, _, _, rfl, st3.mono ?_⟩
          rw [List.length_map, lfa]
          omega
      · obtain ⟨y4, y5, y6, es, st⟩ := hp
        subst es
        refine ⟨_, _, _, _, rfl, st.mono ?_⟩
        rw [List.length_map]
        omega
    rintro σ' H3 ⟨y4, y5, y6, y7, rfl, st3⟩
    refine ⟨fun σ' H' => ∃ y4 y5 y6 y7, σ' = [some (.ref b), some (.ref r), some (.ref ct), some (.ref fd), y4, y5, y6, y7] ∧ DSt T b l ct fd H H' 33, ?_, ?_⟩
    · refine ⟨(by show 9 ≤ sizeLine; decide), fun li hli => ?_⟩
      have n1 : Mod T [] H3 (upd H3 li (.lst (litL.map V.str))) := Mod.new hli
      have f1 : (upd H3 li (.lst (litL.map V.str))) li = some (.lst (litL.map V.str)) := upd_same
      have nli := st3.bag.new hli
      have nlf : li ≠ fd := fun z => by
        obtain ⟨fs, e, _⟩ := st3.fs
        rw [z, e] at hli
        cases hli
      refine ⟨li, rfl, ⟨litL.map V.str, SqL.of f1⟩, ?_⟩
      have st4 := st3.new n1
      show ∃ W : Nat → Nat → L2.St → Hp → Prop, (∃ m, W 0 m _ (upd H3 li (.lst (litL.map V.str)))) ∧ _
      generalize upd H3 li (.lst (litL.map V.str)) = H4 at n1 f1 st4
      have l9 : litL.length = 9 := rfl
      refine for_list (xs := litL.map V.str) (fun i σ' H' => ∃ y5, σ' = [some (.ref b), some (.ref r), some (.ref ct), some (.ref fd), y4, y5, y6, y7] ∧ DSt T b l ct fd H H' (24 + i) ∧ H' li = some (.lst (litL.map V.str))) ⟨y5, rfl, st4, f1⟩ (fun i σ' H' _ ⟨_, _, _, x⟩ => SqL.of x) (fun i x σ' H5 hx ⟨y5, es, st5, f5⟩ => ?_) (fun σ' H5 ⟨y5, es, st5, f5⟩ => ?_)
      · subst es
        obtain ⟨pth, hpth, rfl⟩ := Option.map_eq_some_iff.mp ((List.getElem?_map (f := V.str) ▸ hx : _))
        have hi9 := (List.getElem?_eq_some_iff.mp hpth).1
        refine ⟨_, rfl, b, l, 5, rfl, by decide, by decide, st5.bag, fun H6 v m6 hb6 hv => ?_⟩
        have st6 := st5.step m6 hb6 nct
        have f6 := m6.lst1 nli f5
        refine ⟨rfl, _, rfl, ?_⟩
        refine ite2 (fun _ => ?_) (fun _ => ⟨_, rfl, st6.mono (by omega), f6⟩)
        refine ⟨_, rfl, _, rfl, b, l, ct, _, rfl, hb6, st6.ctl, nct, by show 0 < 7; decide, by show 7 < 1000000; decide, fun H7 x m7 hb7 hx => ?_⟩
        obtain ⟨c, rfl, gc⟩ := oneC hx
        have st7 := st6.step m7 hb7 nct
        obtain ⟨o, hput, st8, kl⟩ := st7.put hb hfd (by omega) (litL_gd pth (List.mem_of_getElem? hpth)) gc
        refine ⟨_, rfl, _, rfl, fd, _, rfl, hput, _, rfl, st8, kl _ _ (m7.lst1 nli f6)⟩
      · subst es
        exact ⟨_, _, _, _, rfl, st5⟩
    rintro σ' H4 ⟨y4, y5, y6, y7, rfl, st4⟩
    -- the lock's text of some plan
    refine ⟨fun σ' H' => ∃ y4 y5 y6 y7, σ' = [some (.ref b), some (.ref r), some (.ref ct), some (.ref fd), y4, y5, y6, y7] ∧ DSt T b l ct fd H H' 37, ?_, ?_⟩
    · refine ⟨_, rfl, (by show 5 ≤ sizeLine; decide), fun li hli => ?_⟩
      have n1 : Mod T [] H4 (upd H4 li (.lst [.int 0, .int 1, .int 2, .int 3, .int 7])) := Mod.new hli
      have f1 : (upd H4 li (.lst [.int 0, .int 1, .int 2, .int 3, .int 7])) li = some (.lst [.int 0, .int 1, .int 2, .int 3, .int 7]) := upd_same
      have nli := st4.bag.new hli
      generalize upd H4 li (.lst [.int 0, .int 1, .int 2, .int 3, .int 7]) = H5 at n1 f1
      have st5 := st4.new n1
      refine ⟨b, l, li, _, rfl, st5.bag, f1, nli, by show 5 ≤ 1000; decide, fun H6 mp ys m6 hb6 nmp emp lys sys => ?_⟩
      have st6 := st5.step m6 hb6 nct
      refine ⟨_, rfl, b, l, 5, rfl, by decide, by decide, hb6, fun H7 v m7 hb7 hv => ?_⟩
      have st7 := st6.step m7 hb7 nct
      have nmb := st5.bag.new nmp
      refine ⟨((v : Nat) : Int), rfl, mp, ys, rfl, SqL.of (m7.lst1 nmb emp), fun sl hsl => ?_⟩
      have n8 : Mod T [] H7 (upd H7 sl (.lst (cutV ys none (some ((v : Nat) : Int))))) := Mod.new hsl
      have f8 : (upd H7 sl (.lst (cutV ys none (some ((v : Nat) : Int))))) sl = some (.lst (cutV ys none (some ((v : Nat) : Int)))) := upd_same
      have lz : (cutV ys none (some ((v : Nat) : Int))).length ≤ 4 := Nat.le_trans (cutV_to_len ys v) (by omega)
      have sz : ∀ z ∈ cutV ys none (some ((v : Nat) : Int)), ∃ n : Nat, z = .int (n : Nat) ∧ n < 10 ^ 9 := fun z hz => by
        have := sys z (cutV_mem hz)
        simp only [List.mem_cons, List.not_mem_nil, or_false] at this
        rcases this with rfl | rfl | rfl | rfl | rfl
        · exact ⟨0, rfl, by decide⟩
        · exact ⟨1, rfl, by decide⟩
        · exact ⟨2, rfl, by decide⟩
        · exact ⟨3, rfl, by decide⟩
        · exact ⟨7, rfl, by decide⟩
      have nsl := hb7.new hsl
      generalize cutV ys none (some ((v : Nat) : Int)) = zs at n8 f8 lz sz
      generalize upd H7 sl (.lst zs) = H8 at n8 f8
      have st8 := st7.new n8
      refine ⟨sl, rfl, ⟨zs, SqL.of f8⟩, ?_⟩
      refine for_list (xs := zs) (fun i σ' H' => ∃ y7, σ' = [some (.ref b), some (.ref r), some (.ref ct), some (.ref fd), y4, y5, y6, y7] ∧ DSt T b l ct fd H H' (33 + i) ∧ H' sl = some (.lst zs)) ⟨y7, rfl, st8, f8⟩ (fun i σ' H' _ ⟨_, _, _, x⟩ => SqL.of x) (fun i x σ' H9 hx ⟨y7, es, st9, f9⟩ => ?_) (fun σ' H9 ⟨y7, es, st9, f9⟩ => ?_)
      · subst es
        obtain ⟨n, rfl, hn⟩ := sz x (List.mem_of_getElem? hx)
        have hi4 := (List.getElem?_eq_some_iff.mp hx).1
        have h19 : n < 10 ^ 19 := Nat.lt_trans hn (by decide)
        obtain ⟨t1, t2⟩ := big_txt h19
        refine ⟨_, rfl, _, rfl, _, rfl, _, rfl, b, l, r, rfl, st9.bag, ⟨tp, te, packs, ktH st9 _ _ er, ktH st9 _ _ etp, lpk, fun u hu => (hpk u hu).mp (ktH st9)⟩, fun H10 pp m10 hb10 npp pl => ?_⟩
        have st10 := st9.step m10 hb10 nct
        refine ⟨pp, rfl, pl, fun H11 txt m11 gtx => ?_⟩
        have st11 := st10.new m11
        refine ⟨(by show 1 ≤ sizeLine; decide), fun q1 hq1 => ?_⟩
        have k1 : Mod T [] H11 (upd H11 q1 (.lst [.str txt])) := Mod.new hq1
        have d1 : (upd H11 q1 (.lst [.str txt])) q1 = some (.lst [.str txt]) := upd_same
        generalize upd H11 q1 (.lst [.str txt]) = H12 at k1 d1
        have st12 := st11.new k1
        refine ⟨ct, q1, _, _, rfl, rfl, st12.ctl, d1, by show 7 + 1 ≤ sizeLine; decide, fun q2 hq2 => ?_⟩
        have k2 : Mod T [] H12 (upd H12 q2 (.lst (contL.map V.str ++ [.str txt]))) := Mod.new hq2
        have d2 : (upd H12 q2 (.lst (contL.map V.str ++ [.str txt]))) q2 = some (.lst (contL.map V.str ++ [.str txt])) := upd_same
        have nq2 := st12.bag.new hq2
        generalize upd H12 q2 (.lst (contL.map V.str ++ [.str txt])) = H13 at k2 d2
        have st13 := st12.new k2
        refine ⟨b, l, q2, _, rfl, st13.bag, d2, nq2, by show 0 < 8; decide, by show 8 < 1000000; decide, fun H14 x m14 hb14 hx => ?_⟩
        have st14 := st13.step m14 hb14 nct
        obtain ⟨c, rfl, gc⟩ : ∃ c, x = .str c ∧ Gd 1000 c := by
          rcases List.mem_append.mp hx with h | h
          · exact oneC h
          · exact ⟨txt, List.mem_singleton.mp h, gtx.mono (by decide)⟩
        obtain ⟨o, hput, st15, kl⟩ := st14.put hb hfd (by omega) (gd_path h19) gc
        refine ⟨_, rfl, _, rfl, _, rfl, t1, SH, _, rfl, rfl, t2, fd, _, rfl, hput, ?_⟩
        refine ⟨_, rfl, st15, kl _ _ ?_⟩
        exact m14.lst1 nsl (((m11.trans k1).trans k2).lst (m10.lst1 nsl f9))
      · subst es
        exact ⟨_, _, _, _, rfl, st9.mono (by omega)⟩
    rintro σ' H5 ⟨y4, y5, y6, y7, rfl, st5⟩
    refine ⟨fun σ' H' => σ' = [some (.ref b), some (.ref r), some (.ref ct), some (.ref fd), y4, y5, y6, y7] ∧ DSt T b l ct fd H H' 38, ?_, ?_⟩
    · refine ⟨_, rfl, b, l, 3, rfl, by decide, by decide, st5.bag, fun H6 v m6 hb6 hv => ?_⟩
      have st6 := st5.step m6 hb6 nct
      refine ⟨_, _, rfl, rfl, _, rfl, ?_⟩
      refine ite2 (fun _ => ?_) (fun _ => ⟨rfl, st6.mono (by omega)⟩)
      refine ⟨_, rfl, _, rfl, _, rfl, b, l, r, rfl, hb6, ⟨tp, te, packs, ktH st6 _ _ er, ktH st6 _ _ etp, lpk, fun u hu => (hpk u hu).mp (ktH st6)⟩, fun H10 pp m10 hb10 npp pl => ?_⟩
      have st10 := st6.step m10 hb10 nct
      refine ⟨pp, rfl, pl, fun H11 txt m11 gtx => ?_⟩
      have st11 := st10.new m11
      refine ⟨(by show 2 ≤ sizeLine; decide), fun q1 hq1 => ?_⟩
      have k1 : Mod T [] H11 (upd H11 q1 (.lst [.str (Str.ofString "before"), .str txt])) := Mod.new hq1
      have d1 : (upd H11 q1 (.lst [.str (Str.ofString "before"), .str txt])) q1 = some (.lst [.str (Str.ofString "before"), .str txt]) := upd_same
      have nq1 := st11.bag.new hq1
      generalize upd H11 q1 (.lst [.str (Str.ofString "before"), .str txt]) = H12 at k1 d1
      have st12 := st11.new k1
      refine ⟨b, l, q1, _, rfl, st12.bag, d1, nq1, by show 0 < 2; decide, by show 2 < 1000000; decide, fun H14 x m14 hb14 hx => ?_⟩
      have st14 := st12.step m14 hb14 nct
      obtain ⟨c, rfl, gc⟩ : ∃ c, x = .str c ∧ Gd 1000 c := by
        simp only [List.mem_cons, List.not_mem_nil, or_false] at hx
        rcases hx with rfl | rfl
        · exact ⟨_, rfl, gd_of (by decide +kernel) (by decide +kernel)⟩
        · exact ⟨_, rfl, gtx.mono (by decide)⟩
      obtain ⟨o, hput, st15, _⟩ := st14.put hb hfd (by omega) (k := Str.ofString "lock") (gd_of (by decide +kernel) (by decide +kernel)) gc
      exact ⟨_, rfl, fd, _, rfl, hput, rfl, st15⟩
    rintro σ' H6 ⟨rfl, st6⟩
    -- the log's text
    refine ⟨fun σ' H' => σ' = [some (.ref b), some (.ref r), some (.ref ct), some (.ref fd), y4, y5, y6, y7] ∧ DSt T b l ct fd H H' 39, ?_, ?_⟩
    · refine ⟨_, rfl, b, l, 3, rfl, by decide, by decide, st6.bag, fun H7 v m7 hb7 hv => ?_⟩
      have st7 := st6.step m7 hb7 nct
      refine ⟨rfl, _, rfl, ?_⟩
      refine ite2 (fun _ => ?_) (fun _ => ⟨rfl, st7.mono (by omega)⟩)
      obtain ⟨fs, efs, ofs⟩ := st7.fs
      refine ⟨_, rfl, _, rfl, b, l, fd, fs, rfl, hb7, efs, ofs.mono (by decide), fun H8 txt m8 hb8 gtx => ?_⟩
      have st8 := st7.step m8 hb8 nct
      obtain ⟨o, hput, st9, _⟩ := st8.put hb hfd (by omega) (k := Str.ofString "log") (gd_of (by decide +kernel) (by decide +kernel)) gtx
      exact ⟨_, rfl, fd, _, rfl, hput, rfl, st9⟩
    rintro σ' H7 ⟨rfl, st7⟩
    refine ⟨fun σ' H' => σ' = [some (.ref b), some (.ref r), some (.ref ct), some (.ref fd), y4, y5, y6, y7] ∧ DSt T b l ct fd H H' 40, ?_, ?_⟩
    · refine ⟨_, rfl, b, l, 5, rfl, by decide, by decide, st7.bag, fun H8 v m8 hb8 hv => ?_⟩
      have st8 := st7.step m8 hb8 nct
      refine ⟨rfl, _, rfl, ?_⟩
      refine ite2 (fun _ => ?_) (fun _ => ⟨rfl, st8.mono (by omega)⟩)
      obtain ⟨fs, efs, ofs⟩ := st8.fs
      refine ⟨_, rfl, _, rfl, _, rfl, b, l, fd, fs, rfl, hb8, efs, ofs.mono (by decide), fun H9 txt m9 hb9 gtx => ?_⟩
      have st9 := st8.step m9 hb9 nct
      refine ⟨(by show 3 ≤ sizeLine; decide), fun q1 hq1 => ?_⟩
      have k1 : Mod T [] H9 (upd H9 q1 (.lst [.str (Str.ofString ""), .str (Str.ofString "log 0"), .str txt])) := Mod.new hq1
      have d1 : (upd H9 q1 (.lst [.str (Str.ofString ""), .str (Str.ofString "log 0"), .str txt])) q1 = some (.lst [.str (Str.ofString ""), .str (Str.ofString "log 0"), .str txt]) := upd_same
      have nq1 := st9.bag.new hq1
      generalize upd H9 q1 (.lst [.str (Str.ofString ""), .str (Str.ofString "log 0"), .str txt]) = H10 at k1 d1
      have st10 := st9.new k1
      refine ⟨b, l, q1, _, rfl, st10.bag, d1, nq1, by show 0 < 3; decide, by show 3 < 1000000; decide, fun H14 x m14 hb14 hx => ?_⟩
      have st14 := st10.step m14 hb14 nct
      obtain ⟨c, rfl, gc⟩ : ∃ c, x = .str c ∧ Gd 1000 c := by
        simp only [List.mem_cons, List.not_mem_nil, or_false] at hx
        rcases hx with rfl | rfl | rfl
        · exact ⟨_, rfl, gd_of (by decide +kernel) (by decide +kernel)⟩
        · exact ⟨_, rfl, gd_of (by decide +kernel) (by decide +kernel)⟩
        · exact ⟨_, rfl, gtx⟩
      obtain ⟨o, hput, st15, _⟩ := st14.put hb hfd (by omega) (k := Str.ofString "log-new") (gd_of (by decide +kernel) (by decide +kernel)) gc
      exact ⟨_, rfl, fd, _, rfl, hput, rfl, st15⟩
    rintro σ' H8 ⟨rfl, st8⟩
    obtain ⟨fs, efs, ofs⟩ := st8.fs
    refine ⟨_, rfl, _, rfl, fd, dS fs, rfl, efs, fun H9 lp ts k9 nlp _ _ elp pts => ?_⟩
    have m9 : Mod T [] H8 H9 := mod_keep k9
    have st9 := st8.new m9
    have lts : ts.length = fs.length := by
      have := paired_len pts
      rw [dS_len] at this
      exact this
    have l40 := ofs.len
    refine ⟨b, l, lp, _, rfl, st9.bag, elp, st8.bag.new nlp, by rw [List.length_map]; omega, fun H10 mp ys m10 hb10 nmp emp lys sys => ?_⟩
    have hys : ∀ y ∈ ys, ∃ t kv, y = .ref t ∧ PairAt H10 t kv ∧ kv ∈ fs := fun y hy => by
      obtain ⟨t, ht, rfl⟩ := List.mem_map.mp (sys y hy)
      obtain ⟨j, hj⟩ := List.mem_iff_getElem?.mp ht
      obtain ⟨qv, hq, et⟩ := paired_get' pts hj
      rw [get_dk] at hq
      obtain ⟨kv, hkv, rfl⟩ := Option.map_eq_some_iff.mp hq
      exact ⟨t, kv, rfl, m10.tup1 st9.bag et, List.mem_of_getElem? hkv⟩
    obtain ⟨ps, gs, rfl, pps, hgs⟩ := pairs_of (ts := ts) hys
    refine ⟨mp, ps, dS gs, rfl, SqL.of emp, ?_, fun d hd => ?_⟩
    · unfold dS dk
      clear emp lys sys hys
      induction pps with
      | nil => exact .nil
      | cons r t ih => exact .cons (SqT.of r) (ih fun kv hk => hgs kv (List.mem_cons_of_mem _ hk))
    · have m11 : Mod T [] H10 (upd H10 d (.dK (mergeK [] (dS gs)))) := Mod.new hd
      have mAll := (st9.mod.trans m10)
      refine q _ d (mergeF [] gs) (mAll.trans m11.any) (hb10.mod m11) (mAll.old d hd) ?_ ?_
      · show upd H10 d _ d = _
        rw [upd_same]
        exact congrArg (fun z => some (HO.dK z)) (merge_any gs [])
      · have lgs : gs.length ≤ 40 := by
          rw [← paired_len pps]
          rw [List.length_map, List.length_map] at lys
          omega
        have z := mergeF_ok gs [] (n := 0) ⟨.nil, Nat.le_refl _, fun q h => by cases h⟩ fun q hq => ofs.gd q (hgs q hq)
        exact z.mono (by omega)
end Pw

set_option maxHeartbeats 4000000
/-! defs that are promised where no repr is under way (repr looks for what is under way) -/
namespace Pw
open PySem PySem.Spec PyProof.Rows L2 LamX
structure FnG (P : Program) (w : World) (K : PySem.W.Frag) (mg : Str → Option Value) (base : Heap) (k : Nat) (f : Addr) (fd : FuncData) (ps : List Str) (sp : Sp) : Prop where
  len : ∀ vs H Q E, sp vs H Q E → vs.length = ps.length
  run : ∀ (A : Around) (outer : List Env) (s : Shared) (H : Hp) (args : Args) (us : List Value) (vs : List V) (Q : VK) (E : XK), A.guards = some [] → Room k A → Env0 P w K mg base A outer s H → BindsTo s fd args (ps.zip us) → Vals vs us → sp vs H Q E →
    codeAny (model P w) A (.call (.ref f) args) (CR C8.CX0 outer P w H s Q E) s
structure CalG (P : Program) (w : World) (K : PySem.W.Frag) (mg : Str → Option Value) (base : Heap) (k : Nat) (x : Str) (sp : Sp) : Prop where
  ex : ∃ (f : Addr) (fd : FuncData) (ps : List Str), FnG P w K mg base k f fd ps sp ∧ mg x = some (.ref f) ∧ PySem.W.keepIn K (.ref f) = true ∧ Binds K fd ps []
theorem fnG_of {P : Program} {w : World} {K : PySem.W.Frag} {mg : Str → Option Value} {base : Heap} {x : Str} {st : Stmt} {f : Addr} {fd : FuncData} {N ps : List Str} {k : Nat} {sp : Sp} (F : FunD K x x (defArgs st) (defBody st) (defScope st) [] [] f fd) (S : FnScope N ps (defScope st))
    (len : ∀ vs H Q E, sp vs H Q E → vs.length = ps.length)
    (hbody : ∀ (cdv : Value) (A : Around) (outer : List Env) (s : Shared) (H : Hp) (vs : List V) (Q : VK) (E : XK), A.guards = some [] → Room k (A.deeper (envOfC x (defScope st) s.heap.objs.size f cdv)) → sp vs H Q E →
      ∃ t, PSs (cxOf C8.CX0 P w K mg base N x (defScope st) f cdv A outer s H E).nox (defBody st) t ∧ t { nx := fun _ H' => Q .non H', rt := Q } (start N vs) H) : FnG P w K mg base (k + 1) f fd ps sp := by
  obtain ⟨oc, od, dV, kV, doc, pm, an, cdv, ct, osl, rfl, lk, hcd, _, _⟩ := F.ex
  refine ⟨len, fun A outer s H args us vs Q E hG hr e0 hb r hsp => ?_⟩
  have KX : K.In s.heap := e0.mod.kin.keeps fun b o e => (e0.bs b o e).1
  have knd : ∀ y ∈ ps.zip us, (defScope st).names.lookup y.1 = some .local ∨ ((defScope st).names.lookup y.1 = some .cell ∧ ((cellsFrom (s.heap.objs.size + 1) (defScope st).names []).lookup y.1).isSome = true) := fun ⟨n, v⟩ hy =>
    (S.par n (List.of_mem_zip hy).1).imp id fun q => ⟨q, PySem.W.cellsFrom_some _ _ _ (.inl q)⟩
  refine codeAny_call_function hr.depth (KX _ _ lk) rfl S.co S.gen rfl (PySem.W.codeRec_of KX hcd) (hb _ _ _ _ (wpAny_newFunctionEnv_cells S.kind knd fun env he s1 z => ?_))
  subst he
  refine ⟨(e0.mod.nolimit.keeps fun b o e => (e0.bs b o e).1).keeps z.toInCall.keep, codeAny_func ?_⟩
  obtain ⟨t, ht, hq⟩ := hbody cdv A outer s H vs Q E hG (hr.deeper _) hsp
  have I : Inv (cxOf C8.CX0 P w K mg base N x (defScope st) f cdv A outer s H E) [] (start N vs) H s1 := inv_start S hr.hd e0 (len _ _ _ _ hsp) r z
  refine wpAny_mono (ht.nox.run [] s1 (start N vs) H _ I hq) (fun fl s' hs => ?_) fun e s' hs => hs
  cases fl with
  | ret u =>
    obtain ⟨v, σ', H', J, rv, q⟩ := hs
    exact ⟨v, H', J.os, J.bare, J.base, J.hok, rv, q⟩
  | next =>
    obtain ⟨σ', H', J, q⟩ := hs
    exact ⟨.non, H', J.os, J.bare, J.base, J.hok, rfl, q⟩
  | brk =>
    obtain ⟨_, _, _, q⟩ := hs
    exact q.elim
  | cont =>
    obtain ⟨_, _, _, q⟩ := hs
    exact q.elim
theorem calG_of {P : Program} {w : World} {K : PySem.W.Frag} {mg : Str → Option Value} {base : Heap} {x : Str} {st : Stmt} {N ps : List Str} {k : Nat} {sp : Sp} (D : PwDef K mg x st) (S : FnScope N ps (defScope st))
    (hb : ∀ (kV doc pm : Value) (an : Option Addr) (cdv ct : Value) (us : List Value), us.length = ps.length → bindArgs (PySem.W.fnOf x x (defArgs st) (defBody st) (defScope st) .none kV doc pm an cdv ct) ⟨us, []⟩ = pure (ps.zip us))
    (len : ∀ vs H Q E, sp vs H Q E → vs.length = ps.length)
    (hbody : ∀ (f : Addr) (cdv : Value) (A : Around) (outer : List Env) (s : Shared) (H : Hp) (vs : List V) (Q : VK) (E : XK), A.guards = some [] → Room k (A.deeper (envOfC x (defScope st) s.heap.objs.size f cdv)) → sp vs H Q E →
      ∃ t, PSs (cxOf C8.CX0 P w K mg base N x (defScope st) f cdv A outer s H E).nox (defBody st) t ∧ t { nx := fun _ H' => Q .non H', rt := Q } (start N vs) H) : CalG P w K mg base (k + 1) x sp := by
  obtain ⟨f, fd, F, hm⟩ := D.ex
  exact ⟨f, fd, ps, fnG_of F S len fun cdv A outer s H vs Q E => hbody f cdv A outer s H vs Q E, hm, F.kp, F.bindsN hb⟩
section
variable {X : Cx} {k : Nat} {sp : Sp} {x : Str} {p pos : Pos} {e : Expr} {es : List Expr} {t : TA} {j : Nat}
/-- its call -/
theorem pe_g (c : CalG X.prog X.w X.K X.mg X.base k x sp) (hG : X.A.guards = some []) (hr : Room j X.A) (hk : k ≤ j) (hg : Gl X x) (ha : PA X (e :: es) t)
    (hdb : (x == ("__debug__" : Str)) = false := by decide) (he : starEach (e :: es) X.env = (false, eval e X.env) :: starEach es X.env := by rfl) (hpl : (backTo pos (starEach es X.env)).any (·.1) = false := by rfl) :
    PE X (.Call (.Name x p) (e :: es) [] pos) (tCall sp [] C8.E0 t) := by
  obtain ⟨f, fd, ps, F, hm, kp, b⟩ := c.ex
  refine ⟨fun pins s σ H Q I h => ?_⟩
  refine wpAny_Call_Name_kw (ld_glob I hg hm ?_ hdb)
  refine PySem.W.callWith_K (h₀ := X.base) I.ok.mod.kin kp (thn (ha.run pos pins s σ H _ I h) fun us s1 ⟨vs, H1, I1, r, q⟩ => ⟨I1.kIn, ?_⟩) he hpl
  have q : sp vs H1 Q C8.E0 := by
    have q : sp (vs ++ []) H1 Q C8.E0 := q
    rw [List.append_nil] at q
    exact q
  have hl : (us ++ []).length = ps.length := by
    rw [List.append_nil, ← r.length]
    exact F.len _ _ _ _ q
  have hbind := b s1 us I1.kIn hl
  rw [List.append_nil] at hbind
  refine wpAny_call (codeAny_mono (F.run X.A X.stack s1 H1 ⟨us, []⟩ us vs Q C8.E0 hG (hr.mono hk) I1.env0 hbind r q) fun r s' hq => ?_)
  cases r with
  | error e => exact hq.elim
  | ok fl =>
    cases fl with
    | ret u => exact I1.after hq
    | next => exact False.elim hq
    | brk => exact False.elim hq
    | cont => exact False.elim hq
end
end Pw

set_option maxHeartbeats 4000000
namespace Pw
open PySem PySem.Spec PyProof.Rows L2 LamX
variable {P : Program} {w : World} {K : PySem.W.Frag} {mg : Str → Option Value} {base : Heap} {T : List (Addr × Str)}
/-! ### how long what is shown may be -/
theorem repr_le {x : Str} {n : Nat} (h : Gd n x) : (PyData.shown (.str x)).length ≤ 10 * n + 2 := by
  have e : PyData.shown (.str x) = reprText x := by rw [PyData.shown]
  rw [e]
  have := StrLaws.reprText_len x fun c hc => Nat.lt_trans (h.2 c hc) (by decide)
  have h1 := h.1
  omega
theorem shownAll_mem : ∀ {ds : List PyData} {t : Str}, t ∈ PyData.shownAll ds → ∃ d ∈ ds, t = PyData.shown d
  | [], t, h => by
    rw [PyData.shownAll] at h
    cases h
  | d :: ds, t, h => by
    rw [PyData.shownAll] at h
    rcases List.mem_cons.mp h with rfl | h
    · exact ⟨d, List.mem_cons_self, rfl⟩
    · obtain ⟨d', h1, h2⟩ := shownAll_mem h
      exact ⟨d', List.mem_cons_of_mem _ h1, h2⟩
theorem shownAll_len : ∀ ds : List PyData, (PyData.shownAll ds).length = ds.length
  | [] => by rw [PyData.shownAll]; rfl
  | d :: ds => by rw [PyData.shownAll, List.length_cons, List.length_cons, shownAll_len ds]
theorem textFrom_le {m : Nat} : ∀ (ts : List Str) (k : Nat) (acc : Str), (∀ t ∈ ts, t.length ≤ m) → (textFrom k acc ts).length ≤ acc.length + (m + 2) * ts.length
  | [], k, acc, _ => by
    show acc.length ≤ _
    omega
  | t :: r, k, acc, h => by
    have ih := textFrom_le r (k + 1) (acc ++ (if k > 0 then ", " else "" : String) ++ t) fun x hx => h x (List.mem_cons_of_mem _ hx)
    have ht := h t List.mem_cons_self
    have e : (acc ++ (if k > 0 then ", " else "" : String) ++ t).length ≤ acc.length + 2 + t.length := by
      rw [strLen_append, strLen_append]
      have : (((if k > 0 then ", " else "" : String) : Str)).length ≤ 2 := by split <;> decide +kernel
      omega
    have e2 : (m + 2) * (t :: r).length = (m + 2) * r.length + (m + 2) := by rw [List.length_cons, Nat.mul_succ]
    show (textFrom (k + 1) (acc ++ (if k > 0 then ", " else "" : String) ++ t) r).length ≤ _
    omega
theorem listText_le {m n : Nat} {ts : List Str} (h : ∀ t ∈ ts, t.length ≤ m) (hn : ts.length ≤ n) : (listText ts).length ≤ (m + 2) * n + 2 := by
  unfold listText
  rw [strLen_append]
  have h1 := textFrom_le ts 0 "[" h
  have h2 : (m + 2) * ts.length ≤ (m + 2) * n := Nat.mul_le_mul_left _ hn
  have h3 : (("[" : String) : Str).length = 1 := by decide +kernel
  have h4 : (("]" : String) : Str).length = 1 := by decide +kernel
  omega
theorem joined_le {m n : Nat} {ts : List Str} (h : ∀ t ∈ ts, t.length ≤ m) (hn : ts.length ≤ n) : (Str.join ", " ts).length ≤ (m + 2) * n := by
  have h1 := StrLaws.join_length_le ", " ts
  have h2 := sum_le h
  have h3 : m * ts.length ≤ m * n := Nat.mul_le_mul_left _ hn
  have h4 : (((", " : String)) : Str).length = 2 := by decide +kernel
  rw [h4] at h1
  have h5 : (m + 2) * n = m * n + 2 * n := Nat.add_mul _ _ _
  omega
theorem tupleText_le {m n : Nat} {ts : List Str} (h : ∀ t ∈ ts, t.length ≤ m) (hn : ts.length ≤ n) : (tupleText ts).length ≤ (m + 2) * n + 3 := by
  unfold tupleText
  rw [strLen_append, strLen_append]
  have h1 := joined_le h hn
  have h3 : (("(" : String) : Str).length = 1 := by decide +kernel
  have h4 : (((if ts.length == 1 then ",)" else ")" : String)) : Str).length ≤ 2 := by split <;> decide +kernel
  omega
theorem dictText_le {m n : Nat} {ts : List Str} (h : ∀ t ∈ ts, t.length ≤ m) (hn : ts.length ≤ n) : (dictText ts).length ≤ (m + 2) * n + 2 := by
  unfold dictText
  rw [strLen_append, strLen_append]
  have h1 := joined_le h hn
  have h3 : (("{" : String) : Str).length = 1 := by decide +kernel
  have h4 : (("}" : String) : Str).length = 1 := by decide +kernel
  omega
/-! ### the data -/
def rowD (r : List Str) : PyData := .tuple (pdS r)
def rowsD (rows : List (List Str)) : PyData := .list (rows.map rowD)
def dictD (fs : Fs) : PyData := .dict (fs.map fun kv => (.str kv.1, .str kv.2))
theorem showable_strs : ∀ ws : List Str, PyData.showableAll (pdS ws) = true
  | [] => by
    show PyData.showableAll [] = true
    rw [PyData.showableAll]
  | x :: r => by
    show PyData.showableAll (PyData.str x :: pdS r) = true
    rw [PyData.showableAll, showable_strs r, PyData.showable]
    rfl
theorem showable_rows : ∀ rows : List (List Str), PyData.showableAll (rows.map rowD) = true
  | [] => by
    show PyData.showableAll [] = true
    rw [PyData.showableAll]
  | x :: r => by
    show PyData.showableAll (rowD x :: r.map rowD) = true
    rw [PyData.showableAll, showable_rows r]
    unfold rowD
    rw [PyData.showable, showable_strs]
    rfl
theorem can_rows : ∀ rows : List (List Str), (∀ r ∈ rows, ∀ x ∈ r, ∀ c ∈ x.cps.toList, c < 128) → PyData.canLayAll0 (rows.map rowD) = true
  | [], _ => rfl
  | x :: r, h => by
    show PyData.canLayAll0 (rowD x :: r.map rowD) = true
    rw [PyData.canLayAll0, can_rows r fun y hy => h y (List.mem_cons_of_mem _ hy)]
    unfold rowD
    rw [PyData.canLay0, can_strs x (h x List.mem_cons_self)]
    rfl
theorem depth_rows : ∀ rows : List (List Str), PyData.depthAll (rows.map rowD) ≤ 1
  | [] => by
    show PyData.depthAll [] ≤ 1
    rw [PyData.depthAll]
    omega
  | x :: r => by
    show PyData.depthAll (rowD x :: r.map rowD) ≤ 1
    rw [PyData.depthAll]
    have := depth_rows r
    have e : PyData.depth (rowD x) = 1 := by
      unfold rowD
      rw [PyData.depth, depth_strs]
    rw [e]
    omega
theorem dp_rows {H : Hp} : ∀ {as : List Addr} {rows : List (List Str)}, TupsAt H as rows → DpAll K H (as.map V.ref) (rows.map rowD)
  | _, _, .nil => .nil
  | _, _, .cons r t => .cons (.tup (SqT.of r) (dp_strs _)) (dp_rows t)
def SmallRows (rows : List (List Str)) : Prop := rows.length ≤ 40 ∧ ∀ r ∈ rows, r.length ≤ 3 ∧ ∀ x ∈ r, Gd 1000 x
theorem rows_shown {rows : List (List Str)} (h : SmallRows rows) : (PyData.shown (rowsD rows)).length ≤ sizeLine := by
  unfold rowsD
  rw [PyData.shown]
  refine Nat.le_trans (listText_le (m := 30015) (n := 40) (fun t ht => ?_) ?_) (by decide)
  · obtain ⟨d, hd, rfl⟩ := shownAll_mem ht
    obtain ⟨r, hr, rfl⟩ := List.mem_map.mp hd
    obtain ⟨l3, g⟩ := h.2 r hr
    unfold rowD
    rw [PyData.shown]
    refine Nat.le_trans (tupleText_le (m := 10002) (n := 3) (fun t ht => ?_) ?_) (by decide)
    · obtain ⟨d, hd, rfl⟩ := shownAll_mem ht
      obtain ⟨x, hx, rfl⟩ := List.mem_map.mp hd
      exact repr_le (g x hx)
    · rw [shownAll_len]
      unfold pdS
      rw [List.length_map]
      exact l3
  · rw [shownAll_len, List.length_map]
    exact h.1
theorem shownKv_le : ∀ {fs : Fs} {t : Str}, t ∈ PyData.shownKv (fs.map fun kv => (PyData.str kv.1, PyData.str kv.2)) → ∃ kv ∈ fs, t = PyData.shown (.str kv.1) ++ ": " ++ PyData.shown (.str kv.2)
  | [], t, h => by
    rw [List.map_nil, PyData.shownKv] at h
    cases h
  | kv :: r, t, h => by
    rw [List.map_cons, PyData.shownKv] at h
    rcases List.mem_cons.mp h with rfl | h
    · exact ⟨kv, List.mem_cons_self, rfl⟩
    · obtain ⟨k, h1, h2⟩ := shownKv_le h
      exact ⟨k, List.mem_cons_of_mem _ h1, h2⟩
theorem shownKv_len : ∀ fs : Fs, (PyData.shownKv (fs.map fun kv => (PyData.str kv.1, PyData.str kv.2))).length = fs.length
  | [] => by rw [List.map_nil, PyData.shownKv]; rfl
  | kv :: r => by rw [List.map_cons, PyData.shownKv, List.length_cons, List.length_cons, shownKv_len r]
theorem showable_kv : ∀ fs : Fs, PyData.showableKv (fs.map fun kv => (PyData.str kv.1, PyData.str kv.2)) = true
  | [] => by rw [List.map_nil, PyData.showableKv]
  | kv :: r => by
    rw [List.map_cons, PyData.showableKv, showable_kv r, PyData.showable, PyData.showable]
    rfl
theorem depth_kv : ∀ fs : Fs, PyData.depthKv (fs.map fun kv => (PyData.str kv.1, PyData.str kv.2)) = 0
  | [] => by rw [List.map_nil, PyData.depthKv]
  | kv :: r => by
    rw [List.map_cons, PyData.depthKv, depth_kv r, PyData.depth, PyData.depth]
    rfl
def SmallDict (fs : Fs) : Prop := (fs.map (·.1)).Nodup ∧ fs.length ≤ 63 ∧ ∀ q ∈ fs, Gd 1000 q.1 ∧ Gd 1000 q.2
theorem dict_shown {fs : Fs} (h : SmallDict fs) : (PyData.shown (dictD fs)).length ≤ sizeLine := by
  unfold dictD
  rw [PyData.shown]
  refine Nat.le_trans (dictText_le (m := 20006) (n := 63) (fun t ht => ?_) ?_) (by decide)
  · obtain ⟨kv, hkv, rfl⟩ := shownKv_le ht
    obtain ⟨g1, g2⟩ := h.2.2 kv hkv
    have h1 := repr_le g1
    have h2 := repr_le g2
    have h3 : (((": " : String)) : Str).length = 2 := by decide +kernel
    rw [strLen_append, strLen_append]
    omega
  · rw [shownKv_len]
    exact h.2.1
/-! ### repr -/
def rRepr (K : PySem.W.Frag) : List V → Hp → VK → Prop := fun vs H Q => ∃ a : Addr, vs = [.ref a] ∧
  ((∃ rows as, H a = some (.lst (as.map V.ref)) ∧ TupsAt H as rows ∧ SmallRows rows ∧ Q (.str (PyData.shown (rowsD rows))) H) ∨ (∃ fs, H a = some (.dK (dS fs)) ∧ SmallDict fs ∧ Q (.str (PyData.shown (dictD fs))) H))
theorem reads_strs {h : Heap} : ∀ {ws : List Str} {vs : List Value}, (∀ (i : Nat) (w : Str), ws[i]? = some w → ∃ v t, vs[i]? = some v ∧ v = Value.str w t) → ws.length = vs.length → ReadsAll h vs (pdS ws) []
  | [], [], _, _ => .nil
  | [], _ :: _, _, hl => by cases hl
  | _ :: _, [], _, hl => by cases hl
  | x :: r, v :: vs, hw, hl => by
    obtain ⟨v', t, e1, e2⟩ := hw 0 x rfl
    obtain rfl : v = v' := Option.some.inj e1
    subst e2
    exact ReadsAll.cons (as := []) (bs := []) (.str x t) (reads_strs (fun i w hi => hw (i + 1) w hi) (Nat.succ.inj hl))
theorem cr_repr {X : Cx} (hG : X.A.guards = some []) (hu : X.A.units + 64 < cLine) : CallR X (.builtin "repr") (rRepr X.K) := by
  intro pins s σ H xs us Q I r h
  obtain ⟨a, rfl, h⟩ := h
  rw [Vals.ref1 r]
  rcases h with ⟨rows, as, ha, ht, sm, q⟩ | ⟨fs, ha, sm, q⟩
  · have dp : Dp X.K H (.ref a) (rowsD rows) := .lst (SqL.of ha) (dp_rows ht)
    obtain ⟨bs, rd⟩ := Dp.reads I (rowsD rows) (.ref a) (.ref a) dp rfl
    have cl : PyData.canLay0 (rowsD rows) = true := by
      unfold rowsD
      rw [PyData.canLay0]
      exact can_rows rows fun r hr x hx => ((sm.2 r hr).2 x hx).2
    have dep : PyData.depth (rowsD rows) ≤ 2 := by
      unfold rowsD
      rw [PyData.depth]
      have := depth_rows rows
      omega
    have shw : PyData.showable (rowsD rows) = true := by
      unfold rowsD
      rw [PyData.showable]
      exact showable_rows rows
    exact repr_of_reads' rd shw (PyData.noDict_hsm (PyData.hasDict_of_canLay _ cl)) hG (by omega) (fun _ _ e => e) (fun h' u tk hk => ⟨.str _, H, I.kept (t' := tk) hk, ⟨u, rfl⟩, q⟩) (rows_shown sm)
  · obtain ⟨hz, hd, vs, kv, o, es, ep, ho, hex, hdat, hks, hpr, hn⟩ := I.hok a _ ha
    have lkv := Paired.length kv
    rw [dS_len] at lkv
    have les := hpr.length
    have key : ∀ i k, (fs.map (·.1))[i]? = some k → ∃ v t, (es.toList.map (·.key))[i]? = some v ∧ v = Value.str k t := fun i k hi => by
      rw [List.getElem?_map] at hi
      obtain ⟨e, he, rfl⟩ := Option.map_eq_some_iff.mp hi
      have hdj : (dS fs)[i]? = some (Sum.inr e.1, .str e.2) := by
        rw [get_dk, he]
        rfl
      obtain ⟨⟨k0, v0⟩, hvj, e1, e2⟩ := paired_get' kv hdj
      have hil : i < es.toList.length := by
        rw [les, ← lkv]
        exact (List.getElem?_eq_some_iff.mp he).1
      have hei : es.toList[i]? = some es.toList[i] := List.getElem?_eq_getElem hil
      obtain ⟨e3, e4⟩ := hpr.get? hei hvj
      have e1 : Sum.inr e.1 = k0 := e1
      subst e1
      obtain ⟨t, ht⟩ : RelV (.str e.1) (es.toList[i]).key := relV_key (k := Sum.inr e.1) e3
      exact ⟨_, t, by rw [List.getElem?_map, hei]; rfl, ht⟩
    have val : ∀ i k, (fs.map (·.2))[i]? = some k → ∃ v t, (es.toList.map (·.val))[i]? = some v ∧ v = Value.str k t := fun i k hi => by
      rw [List.getElem?_map] at hi
      obtain ⟨e, he, rfl⟩ := Option.map_eq_some_iff.mp hi
      have hdj : (dS fs)[i]? = some (Sum.inr e.1, .str e.2) := by
        rw [get_dk, he]
        rfl
      obtain ⟨⟨k0, v0⟩, hvj, e1, e2⟩ := paired_get' kv hdj
      have hil : i < es.toList.length := by
        rw [les, ← lkv]
        exact (List.getElem?_eq_some_iff.mp he).1
      have hei : es.toList[i]? = some es.toList[i] := List.getElem?_eq_getElem hil
      obtain ⟨e3, e4⟩ := hpr.get? hei hvj
      obtain ⟨t, ht⟩ : RelV (.str e.2) v0 := e2
      exact ⟨_, t, by rw [List.getElem?_map, hei]; rfl, e4.trans ht⟩
    have r1 := reads_strs (h := s.heap) key (by rw [List.length_map, List.length_map]; omega)
    have r2 := reads_strs (h := s.heap) val (by rw [List.length_map, List.length_map]; omega)
    have rd : Reads s.heap (.ref a) (dictD fs) (a :: [] ++ []) := by
      refine .dict ho hex.1 hdat ?_ ?_
      · have e : (fs.map fun kv => (PyData.str kv.1, PyData.str kv.2)).map (·.1) = pdS (fs.map (·.1)) := by
          unfold pdS
          rw [List.map_map, List.map_map]
          rfl
        rw [e]
        exact r1
      · have e : (fs.map fun kv => (PyData.str kv.1, PyData.str kv.2)).map (·.2) = pdS (fs.map (·.2)) := by
          unfold pdS
          rw [List.map_map, List.map_map]
          rfl
        rw [e]
        exact r2
    have dep : PyData.depth (dictD fs) = 1 := by
      unfold dictD
      rw [PyData.depth, depth_kv]
    have shw : PyData.showable (dictD fs) = true := by
      unfold dictD
      rw [PyData.showable]
      exact showable_kv fs
    exact repr_of_reads' rd shw (fun _ hm => by
      have hm : sysModules = a := by simpa using hm
      rw [hm] at hd
      simp at hd) hG (by omega) (fun _ _ e => e) (fun h' u tk hk => ⟨.str _, H, I.kept (t' := tk) hk, ⟨u, rfl⟩, q⟩) (dict_shown sm)
/-! ### _law_alike -/
def spAlike (T : List (Addr × Str)) : Sp := fun vs H Q _ => ∃ a b : Addr, vs = [.ref a, .ref b] ∧
  ((∃ rows, Rows H a rows ∧ Rows H b rows ∧ SmallRows rows) ∨ (∃ fs, FsAt H a fs ∧ FsAt H b fs ∧ SmallDict fs)) ∧ ∀ H', Mod T [] H H' → Q (.bl true) H'
theorem sc_alike : FnScope ["_law_found", "_law_due"] ["_law_found", "_law_due"] (defScope s_law_alike) := ⟨rfl, rfl, rfl, by decide +kernel, rfl, by decide +kernel, by decide +kernel⟩
theorem ok_alike (D : PwDef K mg "_law_alike" s_law_alike) (mrep : mg "repr" = none) : CalG P w K mg base 1 "_law_alike" (spAlike T) := by
  refine calG_of D sc_alike (fun _ _ _ _ _ _ us hl => match us, hl with | [_, _], _ => rfl) (fun vs H Q E h => ?_) (fun f cdv A outer s H vs Q E hG hr h => ?_)
  · obtain ⟨a, b, rfl, _⟩ := h
    rfl
  · obtain ⟨a, b, rfl, h, q⟩ := h
    refine ⟨_, pss_one (ps_ret (pe_and (pe_cmpR (OpR.or (op_eqD hr.units) (op_eq_dictA hr.units0)) (pv 0) (pv 1) (by rfl)) (pe_one (pe_cmpR op_eq
      (pe_callB (cr_repr hG hr.units) (by rfl) mrep (by decide +kernel) (pa_cons (pv 0) pa_nil)) (pe_callB (cr_repr hG hr.units) (by rfl) mrep (by decide +kernel) (pa_cons (pv 1) pa_nil)) (by rfl))))), ?_⟩
    rcases h with ⟨rows, ⟨as, ha, ta⟩, ⟨bs, hb, tb⟩, sm⟩ | ⟨fs, ha, hb, sm⟩
    · have cl : PyData.canLay0 (rowsD rows) = true := by
        unfold rowsD
        rw [PyData.canLay0]
        exact can_rows rows fun r hr x hx => ((sm.2 r hr).2 x hx).2
      have sh : SeqAt.shaped (rowsD rows) = true := by
        unfold SeqAt.shaped
        rw [cl]
        have dep : PyData.depth (rowsD rows) ≤ 64 := by
          unfold rowsD
          rw [PyData.depth]
          have := depth_rows rows
          omega
        rw [decide_eq_true dep]
        rfl
      refine ⟨_, rfl, _, rfl, .inl ⟨rowsD rows, rowsD rows, .lst (SqL.of ha) (dp_rows ta), .lst (SqL.of hb) (dp_rows tb), sh, sh, _, rfl, ?_⟩⟩
      rw [SeqAt.eqv_refl _ cl]
      refine iteT ?_
      refine ⟨_, rfl, a, rfl, .inl ⟨rows, as, ha, ta, sm, _, rfl, b, rfl, .inl ⟨rows, bs, hb, tb, sm, rfl, ?_⟩⟩⟩
      have z := q H (Mod.refl H)
      rw [decide_eq_true rfl]
      exact z
    · have ha : H a = some (.dK (dS fs)) := ha
      have hb : H b = some (.dK (dS fs)) := hb
      refine ⟨_, rfl, _, rfl, .inr ⟨a, b, dS fs, dS fs, rfl, rfl, ha, hb, rfl, fun p hp => ?_, _, rfl, ?_⟩⟩
      · obtain ⟨kv, hkv, rfl⟩ := List.mem_map.mp hp
        refine ⟨?_, rfl⟩
        rw [val_dk, mem_look sm.1 (show (kv.1, kv.2) ∈ fs from hkv)]
        rfl
      · refine iteT ?_
        refine ⟨_, rfl, a, rfl, .inr ⟨fs, ha, sm, _, rfl, b, rfl, .inr ⟨fs, hb, sm, rfl, ?_⟩⟩⟩
        have z := q H (Mod.refl H)
        rw [decide_eq_true rfl]
        exact z
end Pw

set_option maxHeartbeats 4000000
namespace Pw
open PySem PySem.Spec PyProof.Rows L2 LamX
variable {P : Program} {w : World} {K : PySem.W.Frag} {mg : Str → Option Value} {base : Heap} {T : List (Addr × Str)}
/-! ### the sizes that the law's calls ask -/
theorem kept_small {N : Nat} {gs : Fs} (h : FOk N gs) (hN : N ≤ 63) : SmallDict (keptOf gs) := by
  have hl : (keptOf gs).length ≤ 63 := by
    unfold keptOf
    rw [inOrd_len]
    have := found_len gs
    have := h.len
    omega
  refine ⟨?_, hl, fun q hq => ?_⟩
  · unfold keptOf
    exact inOrd_nd (found_nd gs)
  · have hq : q ∈ found gs := inOrd_mem hq
    rcases fold_mem gs (nums gs) [] hq with z | ⟨n, hn, rfl⟩
    · cases z
    · obtain ⟨h19, hs⟩ := mem_nums.mp hn
      obtain ⟨c, hc⟩ := Option.isSome_iff_exists.mp hs
      refine ⟨?_, (gd_path h19).mono (by decide)⟩
      show Gd 1000 (cAt gs (shPath n))
      unfold cAt
      rw [hc]
      exact (h.at_ hc).2
theorem plan_gd {fs : Fs} {cs : List Str} {pl : List (Nat × Str)} (Pp : Plan fs cs pl) (hg : ∀ c ∈ cs, Gd 1000 c) : ∀ x ∈ pl, x.1 < 10 ^ 19 ∧ Gd 1000 x.2 := fun x hx => ⟨Pp.lt x hx, hg _ (Pp.mem x hx)⟩
theorem deeds_small {pl : List (Nat × Str)} (h : ∀ x ∈ pl, x.1 < 10 ^ 19 ∧ Gd 1000 x.2) (hl : pl.length ≤ 10) : SmallRows (encs (deedsOf pl)) := by
  refine ⟨?_, fun r hr => ?_⟩
  · unfold encs
    rw [List.length_map, deedsOf_len]
    omega
  · obtain ⟨d, hd, rfl⟩ := List.mem_map.mp hr
    obtain ⟨x, hx, hd⟩ := List.mem_flatMap.mp hd
    obtain ⟨h1, h2⟩ := h x hx
    have g1 : Gd 1000 sPut := gd_of (by decide +kernel) (by decide +kernel)
    have g2 : Gd 1000 sMove := gd_of (by decide +kernel) (by decide +kernel)
    have g3 : Gd 1000 NEW := gd_NEW.mono (by decide)
    unfold newDeeds at hd
    simp only [List.mem_cons, List.not_mem_nil, or_false] at hd
    rcases hd with rfl | rfl
    · refine ⟨Nat.le_refl _, fun y hy => ?_⟩
      have hy : y ∈ [sPut, NEW, x.2] := hy
      simp only [List.mem_cons, List.not_mem_nil, or_false] at hy
      rcases hy with rfl | rfl | rfl
      · exact g1
      · exact g3
      · exact h2
    · refine ⟨Nat.le_refl _, fun y hy => ?_⟩
      have hy : y ∈ [sMove, NEW, shPath x.1] := hy
      simp only [List.mem_cons, List.not_mem_nil, or_false] at hy
      rcases hy with rfl | rfl | rfl
      · exact g2
      · exact g3
      · exact (gd_path h1).mono (by decide)
theorem deeds_short {pl : List (Nat × Str)} (h : ∀ x ∈ pl, x.1 < 10 ^ 19 ∧ Gd 1000 x.2) : Short (deedsOf pl) := fun p c hp => by
  obtain ⟨_, x, hx, rfl⟩ := put_deeds hp
  exact (h x hx).2.1
theorem deeds_cut_len {N : Nat} {fs : Fs} {pl : List (Nat × Str)} (h : FOk N fs) (g : ∀ x ∈ pl, x.1 < 10 ^ 19 ∧ Gd 1000 x.2) (m : Nat) : (doAll fs ((deedsOf pl).take m)).length ≤ N + pl.length + 1 := by
  obtain ⟨j, hj⟩ := take_deeds pl m
  have f0 := fok_of (pl.take j) h fun x hx => g x (List.mem_of_mem_take hx)
  have hl := f0.len
  rw [List.length_take] at hl
  rcases hj with e | ⟨x, hx, e⟩
  · rw [e]
    omega
  · rw [e, doAll_snoc]
    have := len_doOne (doAll fs (deedsOf (pl.take j))) (.put NEW x.2)
    omega
theorem unsh_short (fs : Fs) (cs : List Str) : Short (unshOf fs cs) := fun p c hp => by
  obtain ⟨y, _, e⟩ := List.mem_map.mp hp
  cases e
theorem unsh_len {N : Nat} {fs : Fs} (h : FOk N fs) (cs : List Str) : (unshOf fs cs).length ≤ N + 1 := by
  unfold unshOf dropsOf
  rw [List.length_map, List.length_append]
  have h1 := List.length_filter_le (fun p => !decide (cAt fs p ∈ cs)) (shelvesOf fs)
  have h2 := shelf_len h
  have h3 : (if (look fs NEW).isSome = true then [NEW] else []).length ≤ 1 := by split <;> simp
  omega
theorem unsh_cut_len {N : Nat} {fs : Fs} (h : FOk N fs) (cs : List Str) (m : Nat) : (doAll fs ((unshOf fs cs).take m)).length ≤ N := by
  unfold unshOf
  rw [← List.map_take]
  exact (fok_drops _ h).len
def newL : List Str := ["", "x", "new", "q", "abc"]
theorem newL_gd : ∀ s ∈ newL, Gd 1000 s := all_gd (by decide +kernel)
def spLaw (T : List (Addr × Str)) (K : PySem.W.Frag) : Sp := fun vs H Q _ => ∃ (a : Addr) (ns : List Int), vs = [.ref a] ∧ SqL K H a (ns.map V.int) ∧ ns.length ≤ 63 ∧ Tabs T H ∧ ∀ H', Q (.bl true) H'
abbrev nLaw : List Str := ["_law_script", "_law_bag_here", "_law_files", "_law_turn", "_law_contents", "_law_k", "_law_deeds", "_law_behind", "_law_again", "_law_left", "_law_one_here", "_law_some", "_law_path"]
theorem sc_law : FnScope nLaw ["_law_script"] (defScope s_law) := ⟨rfl, rfl, rfl, by decide +kernel, rfl, by decide +kernel, by decide +kernel⟩
/-- what the law calls -/
structure Calls (P : Program) (w : World) (K : PySem.W.Frag) (mg : Str → Option Value) (base : Heap) (T : List (Addr × Str)) : Prop where
  bag : Cal P w K mg base 1 "_law_bag" (spBag T K) []
  take : Cal P w K mg base 1 "_law_take" (spTake T) []
  one : Cal P w K mg base 2 "_law_one" (spOne T) []
  packs : Cal P w K mg base 4 "_law_small_packs" (spPacks T) []
  files : Cal P w K mg base 4 "_law_drawn_files" (spDFiles T) []
  keeping : Cal P w K mg base 7 "keeping" (spKeep T) []
  lkeeping : Cal P w K mg base 4 "_law_keeping" (spLKeep T) []
  cuts : Cal P w K mg base 4 "all_cuts" (spAll T) []
  right : Cal P w K mg base 3 "_law_is_cut_right" (spRight T) []
  after : Cal P w K mg base 2 "after" (spAfter T) []
  lafter : Cal P w K mg base 1 "_law_after" (spLAfter T) []
  kept : Cal P w K mg base 6 "kept" (spKept T) []
  lkept : Cal P w K mg base 3 "_law_kept" (spLKept T) []
  unsh : Cal P w K mg base 6 "unshelving" (spUnsh T) []
  alike : CalG P w K mg base 1 "_law_alike" (spAlike T)
  mr : mg "range" = none
theorem ok_law (C : Calls P w K mg base T) {f : Addr} {fd : FuncData} (F : FunD K "law" "law" (defArgs s_law) (defBody s_law) (defScope s_law) [] [] f fd) : FnG P w K mg base 8 f fd ["_law_script"] (spLaw T K) := by
  have mr := C.mr
  refine fnG_of F sc_law (fun vs H Q E h => ?_) (fun cdv A outer s H vs Q E hG hr h => ?_)
  · obtain ⟨a, ns, rfl, _⟩ := h
    rfl
  · obtain ⟨a, ns, rfl, hA, hlen, hT, q⟩ := h
    have hG' : (A.deeper (envOfC "law" (defScope s_law) s.heap.objs.size f cdv)).guards = some [] := hG
    refine ⟨_, pss_cons (ps_set (i := 1) sc_law.nd rfl (.inr rfl) (C8.pe_c C.bag hr (by decide) rfl (pa_cons (pv 0) pa_nil)))
      (pss_cons (ps_set (i := 2) sc_law.nd rfl (.inr rfl) (C8.pe_c C.files hr (by decide) rfl (pa_cons (pv 1) (pa_cons (C8.pe_c C.packs hr (by decide) rfl (pa_cons (pv 1) pa_nil)) pa_nil))))
      (pss_cons (ps_for PassesOwn.never rfl (pi_range1 rfl mr (pa_cons pe_int pa_nil)) (pg_name (i := 3) sc_law.nd rfl (.inl rfl))
        (pss_cons (ps_setLc (i := 4) (own := [("_law_k", 5)]) (g := gName 5) (by rfl) sc_law.nd rfl rfl (sw_true rfl rfl rfl (by decide +kernel)) (pi_range1 rfl mr (pa_cons (pe_op op_add pe_int (C8.pe_c C.take hr (by decide) rfl (pa_cons (pv 1) (pa_cons pe_int pa_nil)))) pa_nil))
          (blkOk_by (own := [("_law_k", 5)]) (N := nLaw) (sc := defScope s_law) (by decide +kernel)) (fun _ _ _ _ _ => pg_name (i := 5) sc_law.nd rfl (Or.inl rfl)) (fun _ _ _ _ _ => pts_nil)
          (fun _ _ _ _ _ => C8.pe_c C.one hr (by decide) rfl (pa_cons (pv 1) (pa_cons (pe_lst (pa_cons pe_str (pa_cons pe_str (pa_cons pe_str (pa_cons pe_str (pa_cons pe_str pa_nil)))))) pa_nil))))
        (pss_cons (ps_set (i := 6) sc_law.nd rfl (.inl rfl) (C8.pe_c C.keeping hr (by decide) rfl (pa_cons (pv 2) (pa_cons (pv 4) pa_nil))))
        (pss_cons (ps_if (pt_not (pt_val (pe_g C.alike hG' hr (by decide) rfl (pa_cons (pv 6) (pa_cons (C8.pe_c C.lkeeping hr (by decide) rfl (pa_cons (pv 2) (pa_cons (pv 4) pa_nil))) pa_nil))))) (pss_one (ps_ret pe_bl)) pss_nil)
        (pss_cons (ps_for PassesOwn.never rfl (pi_list (C8.pe_c C.cuts hr (by decide) rfl (pa_cons (pv 2) (pa_cons (pv 6) pa_nil)))) (pg_name (i := 7) sc_law.nd rfl (.inr rfl))
          (pss_cons (ps_if (pt_not (pt_val (C8.pe_c C.right hr (by decide) rfl (pa_cons (pv 2) (pa_cons (pv 7) (pa_cons (pv 4) pa_nil)))))) (pss_one (ps_ret pe_bl)) pss_nil)
          (pss_cons (ps_set (i := 8) sc_law.nd rfl (.inr rfl) (C8.pe_c C.after hr (by decide) rfl (pa_cons (pv 7) (pa_cons (C8.pe_c C.keeping hr (by decide) rfl (pa_cons (pv 7) (pa_cons (pv 4) pa_nil))) pa_nil))))
          (pss_cons (ps_setLc (i := 9) (own := [("_law_one_here", 10)]) (g := gName 10) (by rfl) sc_law.nd rfl rfl (sw_true rfl rfl rfl (by decide +kernel)) (pi_list (pv 4))
            (blkOk_by (own := [("_law_one_here", 10)]) (N := nLaw) (sc := defScope s_law) (by decide +kernel)) (fun _ _ _ _ _ => pg_name (i := 10) sc_law.nd rfl (Or.inl rfl))
            (fun _ _ _ _ _ => pts_one (pt_cmp (pc_dnotin (hu_of hr) (pv 10) (C8.pe_c C.lkept hr (by decide) rfl (pa_cons (pv 8) pa_nil))) (by rfl))) (fun _ _ _ _ _ => pv 10))
          (pss_one (ps_if (PW.pt (pw_or (pt_not (pt_val (C8.pe_c C.right hr (by decide) rfl (pa_cons (pv 2) (pa_cons (pv 8) (pa_cons (pv 4) pa_nil)))))) (pw_or1 (pt_cmpR (op_neD hr.units) (pv 9) (pe_lst pa_nil) (nomark _))))) (pss_one (ps_ret pe_bl)) pss_nil))))))
        (pss_cons (ps_set (i := 2) sc_law.nd rfl (.inr rfl) (C8.pe_c C.lafter hr (by decide) rfl (pa_cons (pv 2) (pa_cons (pv 6) pa_nil))))
        (pss_cons (ps_set (i := 11) sc_law.nd rfl (.inl rfl) (pe_slice sl_list (pv 4) po_none (po_some pe_int)))
        (pss_one (ps_for PassesOwn.never rfl (pi_list (C8.pe_c C.cuts hr (by decide) rfl (pa_cons (pv 2) (pa_cons (C8.pe_c C.unsh hr (by decide) rfl (pa_cons (pv 2) (pa_cons (pv 11) pa_nil))) pa_nil)))) (pg_name (i := 7) sc_law.nd rfl (.inr rfl))
          (pss_cons (ps_if (PW.pt (pw_or (pt_cmpR (op_neD hr.units) (pe_lc (own := [("_law_one_here", 10)]) (g := gName 10) (by rfl) sc_law.nd (pi_list (pv 11)) (blkOk_by (own := [("_law_one_here", 10)]) (N := nLaw) (sc := defScope s_law) (by decide +kernel)) (fun _ _ _ _ _ => pg_name (i := 10) sc_law.nd rfl (Or.inl rfl))
              (fun _ _ _ _ _ => pts_one (pt_cmp (pc_dnotin (hu_of hr) (pv 10) (C8.pe_c C.lkept hr (by decide) rfl (pa_cons (pv 7) pa_nil))) (by rfl))) (fun _ _ _ _ _ => pv 10)) (pe_lst pa_nil) (nomark _))
              (pw_or1 (pt_not (pt_val (pe_g C.alike hG' hr (by decide) rfl (pa_cons (C8.pe_c C.kept hr (by decide) rfl (pa_cons (pv 7) pa_nil)) (pa_cons (C8.pe_c C.lkept hr (by decide) rfl (pa_cons (pv 7) pa_nil)) pa_nil))))))))
            (pss_one (ps_ret pe_bl)) pss_nil)
          (pss_one (ps_if (pt_cmpR (op_neD hr.units) (pe_lock (pe_lc (own := [("_law_path", 12)]) (g := gName 12) (by rfl) sc_law.nd (pi_keys (pv 2)) (blkOk_by (own := [("_law_path", 12)]) (N := nLaw) (sc := defScope s_law) (by decide +kernel)) (fun _ _ _ _ _ => pg_name (i := 12) sc_law.nd rfl (Or.inl rfl))
              (fun _ _ _ _ _ => pts_one (PW.pt (pw_and (pt_cmpR op_ne (pe_slice sl_str (pv 12) po_none (po_some pe_int)) pe_str (by rfl)) (pw_and1 (pt_cmpR op_ne (pe_dget1 (hu_of hr) (pv 7) (pv 12) (by constructor <;> rfl)) (pe_dget (hu_of hr) (pv 2) (pv 12) (fun _ _ => rfl)) (by rfl)))))) (fun _ _ _ _ _ => pv 12))) (pe_lst pa_nil) (nomark _))
            (pss_one (ps_ret pe_bl)) pss_nil))))))))))))
      (pss_one (ps_ret pe_bl)))), ?_⟩
    refine ⟨_, rfl, a, ns, rfl, hA, hlen, fun H1 b l m1 nb hb => ?_⟩
    refine ⟨_, rfl, _, rfl, b, l, rfl, hb, fun H2 r m2 hb2 hreg => ?_⟩
    refine ⟨b, l, r, rfl, hb2, hreg, fun H3 fp0 fs0 m3 hb3 nfp0 efs0 ofs0 => ?_⟩
    refine ⟨2, rfl, by decide, by decide, ?_⟩
    refine for_range (n := 2) (fun i σ' H' => ∃ (y3 y4 y6 y7 y8 y9 y11 : Option V) (fp : Addr) (fs : Fs), σ' = [some (.ref a), some (.ref b), some (.ref fp), y3, y4, none, y6, y7, y8, y9, none, y11, none] ∧ Tabs T H' ∧ BagAt H' b l ∧ H' fp = some (.dK (dS fs)) ∧ FOk (40 + 4 * i) fs)
      ⟨none, none, none, none, none, none, none, fp0, fs0, rfl, m3.tabs (m2.tabs (m1.tabs hT)), hb3, efs0, ofs0⟩ (fun i σ' H' hi ⟨y3, y4, y6, y7, y8, y9, y11, fp, fs, es, hT', hb', efp, ofs⟩ => ?_) (fun σ' H' _ => q H')
    subst es
    have hi2 : i < 2 := hi
    -- contents
    refine ⟨_, rfl, b, l, 4, rfl, by decide, by decide, hb', fun H4 v m4 hb4 hv => ?_⟩
    have ev : (1 : Int) + (v : Nat) = ((v + 1 : Nat) : Int) := by omega
    refine ⟨_, _, rfl, rfl, ((v + 1 : Nat) : Int), congrArg (fun z => [V.int z]) ev, by omega, by omega, fun B hB => ?_⟩
    rw [Int.toNat_natCast]
    have nBb := hb4.new hB
    refine lc_it (walk_range (lo := 0) (n := v + 1)) (fun k H' => Mod T [b] H4 H' ∧ BagAt H' b l ∧ ∃ cs : List Str, H' B = some (.lst (cs.map V.str)) ∧ cs.length = k ∧ ∀ c ∈ cs, Gd 1000 c) ⟨(Mod.new hB).any, hb4.mod (Mod.new (T := T) hB), [], upd_same, rfl, fun c h => by cases h⟩ (fun _ _ _ _ => trivial) (fun k x H5 H5' hk hp hy => ?_) (fun H5 hp => ?_)
    · obtain ⟨m5, hb5, cs, e5, lc, gc⟩ := hp
      obtain ⟨rfl, rfl⟩ := hy
      refine ⟨rfl, yes_ (iteT ?_)⟩
      refine ⟨_, rfl, (by show 5 ≤ sizeLine; decide), fun t ht => ?_⟩
      have k1 : Mod T [] H5' (upd H5' t (.lst (newL.map V.str))) := Mod.new ht
      have d1 : (upd H5' t (.lst (newL.map V.str))) t = some (.lst (newL.map V.str)) := upd_same
      have ntb := hb5.new ht
      refine ⟨b, l, t, newL.map V.str, rfl, hb5.mod k1, d1, ntb, by show 0 < 5; decide, by show 5 < 1000000; decide, fun H6 x m6 hb6 hx => ?_⟩
      obtain ⟨c, hc, rfl⟩ := List.mem_map.mp hx
      have mm := k1.any.trans m6
      have e6 := mm.lst1 nBb e5
      refine ⟨_, e6, by rw [List.length_map]; exact small_lt (by omega), (m5.trans mm).own hB e6 pl_lst, hb6.own hb4 hB, cs ++ [c], ?_, ?_, fun z hz => ?_⟩
      · rw [upd_same, List.map_append]
        rfl
      · rw [List.length_append, lc]
        rfl
      · rcases List.mem_append.mp hz with hz | hz
        · exact gc z hz
        · rw [List.mem_singleton.mp hz]
          exact newL_gd c hc
    obtain ⟨m5, hb5, cs, eB, lc, gc⟩ := hp
    have mA := m4.trans m5
    have hT5 := mA.tabs hT'
    have efp5 := mA.dK1 hb' efp
    have lc4 : cs.length ≤ 4 := by omega
    clear m4 hb4 m5 mA hB nBb hb' hT' efp ev
    obtain ⟨Pp, fok2, ext2, has2⟩ := plan_is cs ofs gc (by omega)
    have lpl := plan_len cs fs
    -- keeping
    refine ⟨_, rfl, _, rfl, fp, B, fs, cs, rfl, efp5, ofs.mono (by omega), hT5, eB, gc, by omega, fun H6 dp m6 ndp edp => ?_⟩
    generalize hpl : plan fs cs = pl at Pp fok2 ext2 has2 lpl edp
    have gpl := plan_gd Pp gc
    -- alike
    refine ⟨_, rfl, _, rfl, _, rfl, fp, B, fs, cs, rfl, m6.dK efp5, ofs.mono (by omega), m6.lst eB, gc, by omega, fun H7 ep m7 nep eep => ?_⟩
    rw [hpl] at eep
    refine ⟨dp, ep, rfl, .inl ⟨_, edp.mod m7, eep, deeds_small gpl (by omega)⟩, fun H8 m8 => ⟨_, rfl, iteF ?_⟩⟩
    have m58 := (m6.trans m7).trans m8
    have efp8 := m58.dK efp5
    have eB8 := m58.lst eB
    have hT8 := m58.tabs hT5
    have hb8 := hb5.mod m58
    have edp8 := (edp.mod m7).mod m8
    clear m6 m7 m8 m58 eep edp eB efp5 hT5 hb5 ndp nep
    -- all cuts
    refine ⟨_, rfl, _, rfl, fp, dp, fs, deedsOf pl, rfl, efp8, edp8, ofs.nd, ?_, ?_, fun m => ?_, deeds_short gpl, fun H9 ap m9 nap hap => ?_⟩
    · have := ofs.len
      omega
    · rw [deedsOf_len]
      omega
    · have := deeds_cut_len ofs gpl m
      omega
    obtain ⟨as, eap, tas⟩ := hap
    refine ⟨ap, rfl, ⟨_, SqL.of eap⟩, ?_⟩
    have efp9 := m9.dK efp8
    have eB9 := m9.lst eB8
    have hT9 := m9.tabs hT8
    have hb9 := hb8.mod m9
    have edp9 := edp8.mod m9
    clear efp8 eB8 hT8 hb8 edp8 m9
    refine for_list (xs := as.map V.ref) (fun j σ' H' => ∃ y7 y8 y9, σ' = [some (.ref a), some (.ref b), some (.ref fp), some (.int (0 + (i : Nat))), some (.ref B), none, some (.ref dp), y7, y8, y9, none, y11, none] ∧ Mod T [] H9 H') ⟨y7, y8, y9, rfl, Mod.refl _⟩ (fun j σ' H' _ ⟨_, _, _, _, m⟩ => SqL.of (m.lst eap)) (fun j x σ' H10 hx ⟨y7, y8, y9, es, m10⟩ => ?_) (fun σ' H10 ⟨y7, y8, y9, es, m10⟩ => ?_)
    · subst es
      obtain ⟨u, hu, rfl⟩ := Option.map_eq_some_iff.mp ((List.getElem?_map (f := V.ref) ▸ hx : _))
      obtain ⟨gs, hgs, eu⟩ := paired_get' tas hu
      have hm := List.mem_of_getElem? hgs
      have eu : H9 u = some (.dK (dS gs)) := eu
      have cok := cut_ok ofs Pp gc hm
      obtain ⟨fog, _⟩ := cut_is ofs Pp gc hm
      obtain ⟨foa, coa, hasa⟩ := again_ok ofs Pp gc hm (by omega)
      -- the cut is right
      refine ⟨_, rfl, _, rfl, _, rfl, fp, u, B, fs, gs, cs, rfl, m10.dK efp9, m10.dK eu, ofs.mono (by omega), fog.mono (by omega), m10.lst eB9, cok, fun H11 m11 => ⟨_, rfl, iteF ?_⟩⟩
      have m911 := m10.trans m11
      -- again
      refine ⟨_, rfl, _, rfl, _, rfl, u, B, gs, cs, rfl, m911.dK eu, fog.mono (by omega), m911.tabs hT9, m911.lst eB9, gc, by omega, fun H12 kp m12 nkp ekp => ?_⟩
      have la := foa.len
      rw [inOrd_len] at la
      have lgs := fog.len
      have lp2 := plan_len cs gs
      refine ⟨u, kp, gs, _, rfl, (m911.trans m12).dK eu, ekp, fog.nd, by omega, by rw [deedsOf_len]; omega, by omega, fun H13 gp m13 ngp egp => ?_⟩
      have m913 := (m911.trans m12).trans m13
      -- what is left
      refine ⟨_, rfl, B, rfl, ⟨_, SqL.of (m913.lst eB9)⟩, fun L hL => ?_⟩
      refine lc_it (walk_list (xs := cs.map V.str)) (fun k H' => Mod T [] H13 H' ∧ H' L = some (.lst [])) ⟨Mod.new hL, upd_same⟩ (fun k H' _ hp => hp.1.sql (SqL.of (m913.lst eB9))) (fun k x H14 H15 hk hp hy => ?_) (fun H14 hp => ?_)
      · obtain ⟨m14, e14⟩ := hp
        obtain ⟨rfl, hx⟩ := hy
        obtain ⟨cc, hcc, rfl⟩ := Option.map_eq_some_iff.mp ((List.getElem?_map (f := V.str) ▸ hx : _))
        refine ⟨rfl, ?_⟩
        refine ⟨_, rfl, _, rfl, gp, _, rfl, m14.dK egp, foa.mono (by omega), fun H16 kq m16 nkq ekq => ?_⟩
        refine ⟨kq, _, rfl, dget_of ekq cc, _, rfl, ?_⟩
        rw [Option.isSome_map, hasa cc (List.mem_of_getElem? hcc)]
        exact iteF ⟨m14.trans m16, m16.lst e14⟩
      · obtain ⟨m14, e14⟩ := hp
        have m914 := m913.trans m14
        refine ⟨_, rfl, _, rfl, _, rfl, fp, gp, B, fs, _, cs, rfl, m914.dK efp9, m14.dK egp, ofs.mono (by omega), foa.mono (by omega), m914.lst eB9, coa, fun H15 m15 => ⟨_, rfl, iteF ?_⟩⟩
        refine ⟨_, rfl, Nat.zero_le _, fun z hz => ?_⟩
        have m16 : Mod T [] H15 (upd H15 z (.lst [])) := Mod.new hz
        have e16 : (upd H15 z (.lst [])) z = some (.lst []) := upd_same
        generalize upd H15 z (.lst []) = H16 at m16 e16
        refine ne_nil (ws := []) ((m15.trans m16).lst e14) e16 (fun x hx => by cases hx) ⟨_, rfl, iteF ?_⟩
        exact ⟨_, _, _, rfl, m914.trans (m15.trans m16)⟩
    subst es
    -- files = ..
    have lfs := ofs.len
    refine ⟨_, rfl, _, rfl, fp, dp, fs, deedsOf pl, rfl, m10.dK efp9, edp9.mod m10, by omega, by rw [deedsOf_len]; omega, fun H11 fp2 m11 nfp2 efp2 => ?_⟩
    have ofs2 : FOk (40 + 4 * (i + 1)) (doAll fs (deedsOf pl)) := fok2.mono (by omega)
    have efp2 : H11 fp2 = some (.dK (dS (doAll fs (deedsOf pl)))) := efp2
    have m911 := m10.trans m11
    generalize doAll fs (deedsOf pl) = fs2 at ofs2 efp2 has2
    -- some
    refine ⟨_, rfl, ((2 : Nat) : Int), rfl, B, cs.map V.str, rfl, SqL.of (m911.lst eB9), fun sp hsp => ?_⟩
    rw [strs_to]
    have m12 : Mod T [] H11 (upd H11 sp (.lst ((cs.take 2).map V.str))) := Mod.new hsp
    have e12 : (upd H11 sp (.lst ((cs.take 2).map V.str))) sp = some (.lst ((cs.take 2).map V.str)) := upd_same
    generalize upd H11 sp (.lst ((cs.take 2).map V.str)) = H12 at m12 e12
    have sub2 : ∀ c ∈ cs.take 2, c ∈ cs := fun c hc => List.mem_of_mem_take hc
    have m912 := m911.trans m12
    generalize cs.take 2 = cs2 at e12 sub2
    have lfs2 := ofs2.len
    refine ⟨_, rfl, _, rfl, _, rfl, fp2, sp, fs2, cs2, rfl, m12.dK efp2, ofs2.mono (by omega), m912.tabs hT9, e12, fun H13 up m13 nup eup => ?_⟩
    have lun := unsh_len ofs2 cs2
    refine ⟨fp2, up, fs2, unshOf fs2 cs2, rfl, (m12.trans m13).dK efp2, eup, ofs2.nd, by omega, by omega, fun m => by have := unsh_cut_len ofs2 cs2 m; omega, unsh_short fs2 cs2, fun H14 ap2 m14 nap2 hap2 => ?_⟩
    obtain ⟨as2, eap2, tas2⟩ := hap2
    have m1114 := (m12.trans m13).trans m14
    have efp14 : H14 fp2 = some (.dK (dS fs2)) := m1114.dK efp2
    have esp14 := (m13.trans m14).lst e12
    have m914 := m911.trans m1114
    have hT14 := m914.tabs hT9
    have hb14 := hb9.mod m914
    refine ⟨ap2, rfl, ⟨_, SqL.of eap2⟩, ?_⟩
    refine for_list (xs := as2.map V.ref) (fun j σ' H' => ∃ y7, σ' = [some (.ref a), some (.ref b), some (.ref fp2), some (.int (0 + (i : Nat))), some (.ref B), none, some (.ref dp), y7, y8, y9, none, some (.ref sp), none] ∧ Mod T [] H14 H') ⟨y7, rfl, Mod.refl _⟩ (fun j σ' H' _ ⟨_, _, m⟩ => SqL.of (m.lst eap2)) (fun j x σ' H15 hx ⟨y7, es, m15⟩ => ?_) (fun σ' H15 ⟨y7, es, m15⟩ => ?_)
    · subst es
      obtain ⟨u, hu, rfl⟩ := Option.map_eq_some_iff.mp ((List.getElem?_map (f := V.ref) ▸ hx : _))
      obtain ⟨gs, hgs, eu⟩ := paired_get' tas2 hu
      have eu : H14 u = some (.dK (dS gs)) := eu
      obtain ⟨fog, hasg, same⟩ := unsh_ok ofs2 (List.mem_of_getElem? hgs)
      -- what is asked is kept
      refine ⟨_, rfl, sp, rfl, ⟨_, SqL.of (m15.lst esp14)⟩, fun L hL => ?_⟩
      refine lc_it (walk_list (xs := cs2.map V.str)) (fun k H' => Mod T [] H15 H' ∧ H' L = some (.lst [])) ⟨Mod.new hL, upd_same⟩ (fun k H' _ hp => hp.1.sql (SqL.of (m15.lst esp14))) (fun k x H16 H17 hk hp hy => ?_) (fun H16 hp => ?_)
      · obtain ⟨m16, e16⟩ := hp
        obtain ⟨rfl, hx⟩ := hy
        obtain ⟨cc, hcc, rfl⟩ := Option.map_eq_some_iff.mp ((List.getElem?_map (f := V.str) ▸ hx : _))
        refine ⟨rfl, ?_⟩
        refine ⟨_, rfl, _, rfl, u, gs, rfl, (m15.trans m16).dK eu, fog.mono (by omega), fun H18 kq m18 nkq ekq => ?_⟩
        refine ⟨kq, _, rfl, dget_of ekq cc, _, rfl, ?_⟩
        have hc := List.mem_of_getElem? hcc
        rw [Option.isSome_map, hasg cc hc (has2 cc (sub2 cc hc))]
        exact iteF ⟨m16.trans m18, m18.lst e16⟩
      obtain ⟨m16, e16⟩ := hp
      refine ⟨Nat.zero_le _, fun z hz => ?_⟩
      have m17 : Mod T [] H16 (upd H16 z (.lst [])) := Mod.new hz
      have e17 : (upd H16 z (.lst [])) z = some (.lst []) := upd_same
      generalize upd H16 z (.lst []) = H17 at m17 e17
      have m1417 := (m15.trans m16).trans m17
      refine ne_nil (ws := []) (m17.lst e16) e17 (fun x hx => by cases hx) ⟨_, rfl, iteF ?_⟩
      -- alike
      refine ⟨_, rfl, u, gs, rfl, m1417.dK eu, fog.mono (by omega), m1417.tabs hT14, fun H18 k1 m18 nk1 ek1 => ?_⟩
      refine ⟨_, rfl, u, gs, rfl, (m1417.trans m18).dK eu, fog.mono (by omega), fun H19 k2 m19 nk2 ek2 => ?_⟩
      refine ⟨k1, k2, rfl, .inr ⟨_, m19.dK ek1, ek2, kept_small fog (by omega)⟩, fun H20 m20 => ⟨_, rfl, iteF ?_⟩⟩
      have m1420 := ((m1417.trans m18).trans m19).trans m20
      -- all else stands
      have efp20 := m1420.dK efp14
      have eu20 := m1420.dK eu
      refine ⟨fp2, _, efp20, trivial, fun od => ?_⟩
      have ra : Rd (upd H20 fp2 (.frz od (.dK (dS fs2)))) fp2 (.dK (dS fs2)) := rd_lock efp20 efp20
      have rb : Rd (upd H20 fp2 (.frz od (.dK (dS fs2)))) u (.dK (dS gs)) := rd_lock eu20 efp20
      have l1 : (upd H20 fp2 (.frz od (.dK (dS fs2)))) fp2 = some (.frz od (.dK (dS fs2))) := upd_same
      refine ⟨_, rfl, fp2, od, rfl, .inl ⟨dS fs2, l1, fun L2 hL2 => ?_⟩⟩
      have nL2 : L2 ≠ fp2 := fun z => by
        rw [z, upd_same] at hL2
        cases hL2
      refine lc_it walk_keys (fun k H' => Mod T [] (upd H20 fp2 (.frz od (.dK (dS fs2)))) H' ∧ H' L2 = some (.lst [])) ⟨Mod.new hL2, upd_same⟩ (fun k H' _ hp => hp.1.at0 noT_frz l1) (fun k x H21 H22 hk hp hy => ?_) (fun H21 hp => ?_)
      · obtain ⟨m21, e21⟩ := hp
        obtain ⟨rfl, k, v, hk, rfl⟩ := hy
        rw [get_dk] at hk
        obtain ⟨kv, hkv, hkk⟩ := Option.map_eq_some_iff.mp hk
        cases hkk
        have hkm := List.mem_of_getElem? hkv
        have lkf := mem_look ofs2.nd (show (kv.1, kv.2) ∈ fs2 from hkm)
        have gk := (ofs2.gd kv hkm).1.1
        refine ⟨rfl, ?_⟩
        refine ⟨_, rfl, ((6 : Nat) : Int), rfl, kv.1, rfl, small_sz (by omega), rfl, _, rfl, ?_⟩
        refine ite2 (fun h2 => ?_) (fun h2 => ?_)
        · have hne : cutS kv.1 none (some ((6 : Nat) : Int)) ≠ STO := fun z => by
            rw [z] at h2
            revert h2
            decide +kernel
          have lkg := same kv.1 hne
          rw [lkf] at lkg
          have g1 := dget_rd (rd_mod m21 rb) kv.1
          rw [lkg] at g1
          have g2 := dget_rd (rd_mod m21 ra) kv.1
          rw [lkf] at g2
          refine ⟨_, rfl, u, rfl, .inl ⟨_, rd_mod m21 rb⟩, _, rfl, _, g1, ?_⟩
          refine ⟨_, rfl, _, rfl, fp2, .str kv.2, rfl, g2, rfl, _, rfl, ?_⟩
          refine ite2 (fun h3 => ?_) (fun h3 => ⟨m21, e21⟩)
          have hf : (!decide ((V.str kv.2) = V.str kv.2)) = false := by rw [decide_eq_true rfl]; rfl
          exact absurd h3 (by
            show ¬ (!decide ((V.str kv.2) = V.str kv.2)) = true
            rw [hf]
            decide)
        · exact iteF ⟨m21, e21⟩
      · obtain ⟨m21, e21⟩ := hp
        have lb : H21 fp2 = some (.frz od (.dK (dS fs2))) := m21.at0 noT_frz l1
        refine ⟨lb, ?_⟩
        have mU : Mod T [] H20 (upd H21 fp2 (.dK (dS fs2))) := Mod.unlock efp20 pl_dK m21 lb
        have eL : (upd H21 fp2 (.dK (dS fs2))) L2 = some (.lst []) := by
          rw [upd_ne nL2]
          exact e21
        generalize upd H21 fp2 (.dK (dS fs2)) = H22 at mU eL
        refine ⟨Nat.zero_le _, fun z hz => ?_⟩
        have m23 : Mod T [] H22 (upd H22 z (.lst [])) := Mod.new hz
        have e23 : (upd H22 z (.lst [])) z = some (.lst []) := upd_same
        generalize upd H22 z (.lst []) = H23 at m23 e23
        refine ne_nil (ws := []) (m23.lst eL) e23 (fun x hx => by cases hx) ⟨_, rfl, iteF ?_⟩
        exact ⟨_, rfl, (m1420.trans mU).trans m23⟩
    · subst es
      exact ⟨_, _, _, _, _, _, _, fp2, fs2, rfl, m15.tabs hT14, hb14.mod m15, m15.dK efp14, ofs2⟩
end Pw

set_option maxHeartbeats 4000000
/-! the end: the caller's call, where no repr is under way -/
namespace Pw
open PySem PySem.Spec PyProof.Rows L2 LamX
theorem end_call {P : Program} {w : World} {K : PySem.W.Frag} {mg mb : Str → Option Value} {k : Nat} {fa a c tb : Addr} {fd : FuncData} {x : Str} {sp : Sp} {s₁ : Shared} {vs : List Value} {ns : List Int}
    (KX : K.In s₁.heap) (hns : s₁.heap.Ns mainGlobals mg) (hb : s₁.heap.Ns builtinsNs mb) (hbb : ∀ x : Str, x ≠ "__name__" → mb x = bootBuiltins x) (hlim : s₁.heap.NoLimit) (hg : s₁.gens = #[])
    (hT : s₁.heap.get? tb = some { cls := .none, data := .fields #[] }) (nT : K.lookup tb = none) (C : PySem.W.CodeHd s₁.heap c tb)
    (hbm : ∃ (bm : Addr) (ob : Obj), mg "__builtins__" = some (.ref bm) ∧ bm ≠ builtinsNs ∧ s₁.heap.get? bm = some ob ∧ ob.cls = .type "module" ∧ ob.dict = some builtinsNs ∧ ob.data = .plain)
    (ha : s₁.heap.get? a = some { cls := .type "list", data := .seq vs.toArray }) (hi : IntsAre vs ns) (hl : ns.length ≤ sizeLine) (hr : Room k callerA)
    (F : ∀ base : Heap, K.In base → base.Ns mainGlobals mg → TabB base mg c tb → FnG P w K mg base k fa fd [x] sp) (hbind : ∀ u : Value, BindsTo s₁ fd ⟨[u], []⟩ [(x, u)])
    (hsp : ∀ H : Hp, H tb = some (.tbl #[]) → SqL K H a (ns.map V.int) → sp [.ref a] H (fun v _ => v = .bl true) fun _ _ _ => False) :
    codeAny (model P w) callerA (.call (.ref fa) ⟨[.ref a], []⟩) (fun r s' => r = .ok (.ret (.bool true)) ∧ OldK s₁.heap s'.heap ∧ s'.os = s₁.os ∧ AllBare s'.gens) s₁ := by
  have rv := vals_ints hi
  have lv := hi.length
  have nat_ : a ≠ tb := fun z => by
    rw [z, hT] at ha
    injection ha with z1
    injection z1 with _ _ z3
    cases z3
  -- what is told of the heap: the table, and the script where K does not tell it
  obtain ⟨H, h1, h2, h3⟩ : ∃ H : Hp, H tb = some (.tbl #[]) ∧ (∀ b o, H b = some o → (b = tb ∧ o = .tbl #[]) ∨ (b = a ∧ K.lookup a = none ∧ o = .frz { cls := .type "list", data := .seq vs.toArray } (.lst (ns.map V.int)))) ∧ SqL K H a (ns.map V.int) := by
    cases e : K.lookup a with
    | some o =>
      have e2 := KX a o e
      rw [ha] at e2
      cases e2
      refine ⟨fun b => if b = tb then some (.tbl #[]) else none, if_pos rfl, fun b o h => ?_, .inr ⟨_, vs.toArray, _, e, rfl, rfl, rfl, by rw [List.size_toArray, lv]; exact hl, by simpa using rv⟩⟩
      by_cases hb : b = tb
      · exact .inl ⟨hb, (Option.some.inj ((if_pos hb).symm.trans h)).symm⟩
      · have h := (if_neg hb).symm.trans h
        cases h
    | none =>
      refine ⟨fun b => if b = tb then some (.tbl #[]) else if b = a then some (.frz { cls := .type "list", data := .seq vs.toArray } (.lst (ns.map V.int))) else none, if_pos rfl, fun b o h => ?_, .inl (.inr ⟨_, (if_neg nat_).trans (if_pos rfl)⟩)⟩
      by_cases hb : b = tb
      · exact .inl ⟨hb, (Option.some.inj ((if_pos hb).symm.trans h)).symm⟩
      · have h := (if_neg hb).symm.trans h
        by_cases hb2 : b = a
        · exact .inr ⟨hb2, rfl, (Option.some.inj ((if_pos hb2).symm.trans h)).symm⟩
        · have h := (if_neg hb2).symm.trans h
          cases h
  have hok : HOk P w H s₁.heap := fun b o e => by
    rcases h2 b o e with ⟨rfl, rfl⟩ | ⟨rfl, _, rfl⟩
    · exact hT
    · exact ⟨ha, by rw [List.length_map]; exact hl, vs, _, rv, ha⟩
  have out : ∀ {b : Addr} {o : Obj}, s₁.heap.get? b = some o → (∀ vs n, o.data ≠ .seq vs n) → o.data ≠ .fields #[] → H b = none := fun {b o} e q1 q2 => by
    cases q : H b with
    | none => rfl
    | some u =>
      rcases h2 b u q with ⟨rfl, _⟩ | ⟨rfl, _, _⟩
      · rw [hT] at e
        cases e
        exact (q2 rfl).elim
      · rw [ha] at e
        cases e
        exact (q1 _ _ rfl).elim
  have nsB : ∀ {b : Addr} {m : Str → Option Value}, s₁.heap.Ns b m → (hidT s₁.heap H).Ns b m := fun {b m} ⟨o, es, ep, e, d, r⟩ =>
    ⟨o, es, ep, hidT_get e (out e (fun vs n z => by rw [d] at z; cases z) fun z => by rw [d] at z; cases z), d, r⟩
  have KB : K.In (hidT s₁.heap H) := fun b o e => hidT_get (KX b o e) (by
    cases q : H b with
    | none => rfl
    | some u =>
      rcases h2 b u q with ⟨rfl, _⟩ | ⟨rfl, z, _⟩
      · rw [nT] at e
        cases e
      · rw [z] at e
        cases e)
  have MB : L2.Mod K mg (hidT s₁.heap H) := ⟨KB, nsB hns, ⟨mb, nsB hb, hbb⟩, let ⟨mc, q1, q2⟩ := hlim; ⟨mc, nsB q1, q2⟩⟩
  have TB : TabB (hidT s₁.heap H) mg c tb := by
    refine ⟨?_, ?_, fun z => ?_⟩
    · obtain ⟨o, us, file, tf, flags, tg, inF, text, tt, e1, r1, r2, r3, rest⟩ := C
      refine ⟨o, us, file, tf, flags, tg, inF, text, tt, hidT_get e1 (out e1 (fun vs n z => ?_) fun z => ?_), r1, r2, r3, rest⟩
      · rw [r2] at z
        cases z
      · rw [r2] at z
        cases z
        simp at r3
    · obtain ⟨bm, ob, b1, b2, b3, b4, b5, b6⟩ := hbm
      refine ⟨bm, ob, b1, b2, fun q => ?_, fun q => ?_, hidT_get b3 (out b3 (fun vs n z => ?_) fun z => ?_), b4, b5, b6⟩
      · obtain ⟨o, es, ep, e, hd, _⟩ := hns
        rw [q, e] at b3
        cases b3
        rw [hd] at b6
        cases b6
      · rw [q, hT] at b3
        cases b3
        cases b6
      · rw [b6] at z
        cases z
      · rw [b6] at z
        cases z
    · obtain ⟨o, es, ep, e, hd, _⟩ := hns
      rw [z, hT] at e
      cases e
      cases hd
  have e0 : Env0 P w K mg (hidT s₁.heap H) callerA [] s₁ H := ⟨rfl, MB, fun b o e => of_hidT e, Nat.le_of_eq (hidT_size _ _), trivial, fun b hb => absurd (show b ∈ ([] : List Addr) from hb) (by simp), hok, .of_eq hg⟩
  refine codeAny_mono ((F _ KB (nsB hns) TB).run callerA [] s₁ H ⟨[.ref a], []⟩ [.ref a] [.ref a] _ _ rfl hr e0 (hbind (.ref a)) (.cons rfl .nil) (hsp H h1 h3)) fun r s' h => ?_
  match r, h with
  | .error _, h => exact (show False from h).elim
  | .ok .next, h => exact (show False from h).elim
  | .ok .brk, h => exact (show False from h).elim
  | .ok .cont, h => exact (show False from h).elim
  | .ok (.ret u), h =>
    obtain ⟨v, H', os, bare, un, hok', r', q⟩ := h
    have q' : v = .bl true := q
    subst q'
    obtain rfl : u = Value.bool true := r'
    obtain ⟨more, ht'⟩ : ∃ more : Array Value, s'.heap.get? tb = some { cls := .none, data := .fields more } := by
      obtain ⟨more, ht⟩ := un.tbls tb #[] h1
      exact ⟨_, hok' tb _ ht⟩
    have keep : ∀ b o, b ≠ tb → s₁.heap.get? b = some o → s'.heap.get? b = some o := fun b o nb e => by
      cases q : H b with
      | none => exact un.keep b o e q (by intro z; exact absurd (show b ∈ ([] : List Addr) from z) (by simp)) (by simp)
      | some u =>
        rcases h2 b u q with ⟨z, _⟩ | ⟨rfl, _, rfl⟩
        · exact absurd z nb
        · obtain ⟨e2, _⟩ := hok' b _ (un.frzs b _ _ q)
          rw [ha] at e
          cases e
          exact e2
    refine ⟨rfl, ⟨fun b o e => ?_, fun b o e => ?_⟩, os, bare⟩
    · by_cases z : b = tb
      · rw [z] at e ⊢
        rw [hT] at e
        cases e
        exact .inr (.inl ⟨(C.tab hT).isCodeTable, rfl, #[], more, rfl, by rw [Array.empty_append]; exact ht'⟩)
      · exact .inl (keep b o z e)
    · by_cases z : b = tb
      · rw [z]
        exact ⟨_, ht'⟩
      · exact ⟨o, keep b o z e⟩
end Pw

set_option maxHeartbeats 0
/-! the head: facts by names, the run -/
namespace Pw
open PySem PySem.Spec PyProof.Rows L2 LamX
def d_number_behind : He.DefD := ⟨("number_behind", none), "number_behind", "number_behind", defArgs s_number_behind, defBody s_number_behind, defScope s_number_behind, [], []⟩
def d_is_shelf : He.DefD := ⟨("is_shelf", none), "is_shelf", "is_shelf", defArgs s_is_shelf, defBody s_is_shelf, defScope s_is_shelf, [], []⟩
def d_shelves : He.DefD := ⟨("shelves", none), "shelves", "shelves", defArgs s_shelves, defBody s_shelves, defScope s_shelves, [], []⟩
def d_kept : He.DefD := ⟨("kept", none), "kept", "kept", defArgs s_kept, defBody s_kept, defScope s_kept, [], []⟩
def d_keeping : He.DefD := ⟨("keeping", none), "keeping", "keeping", defArgs s_keeping, defBody s_keeping, defScope s_keeping, [], []⟩
def d_unshelving : He.DefD := ⟨("unshelving", none), "unshelving", "unshelving", defArgs s_unshelving, defBody s_unshelving, defScope s_unshelving, [], []⟩
def d_done : He.DefD := ⟨("done", none), "done", "done", defArgs s_done, defBody s_done, defScope s_done, [], []⟩
def d_in_order : He.DefD := ⟨("in_order", none), "in_order", "in_order", defArgs s_in_order, defBody s_in_order, defScope s_in_order, [], []⟩
def d_after : He.DefD := ⟨("after", none), "after", "after", defArgs s_after, defBody s_after, defScope s_after, [], []⟩
def d_cut : He.DefD := ⟨("cut", none), "cut", "cut", defArgs s_cut, defBody s_cut, defScope s_cut, [], []⟩
def d_signs_of : He.DefD := ⟨("signs_of", none), "signs_of", "signs_of", defArgs s_signs_of, defBody s_signs_of, defScope s_signs_of, [], []⟩
def d_all_cuts : He.DefD := ⟨("all_cuts", none), "all_cuts", "all_cuts", defArgs s_all_cuts, defBody s_all_cuts, defScope s_all_cuts, [], []⟩
def d_law_bag : He.DefD := ⟨("_law_bag", none), "_law_bag", "_law_bag", defArgs s_law_bag, defBody s_law_bag, defScope s_law_bag, [], []⟩
def d_law_take : He.DefD := ⟨("_law_take", none), "_law_take", "_law_take", defArgs s_law_take, defBody s_law_take, defScope s_law_take, [], []⟩
def d_law_one : He.DefD := ⟨("_law_one", none), "_law_one", "_law_one", defArgs s_law_one, defBody s_law_one, defScope s_law_one, [], []⟩
def d_law_mixed : He.DefD := ⟨("_law_mixed", none), "_law_mixed", "_law_mixed", defArgs s_law_mixed, defBody s_law_mixed, defScope s_law_mixed, [], []⟩
def d_law_alike : He.DefD := ⟨("_law_alike", none), "_law_alike", "_law_alike", defArgs s_law_alike, defBody s_law_alike, defScope s_law_alike, [], []⟩
def d_law_versions : He.DefD := ⟨("_law_versions", none), "_law_versions", "_law_versions", defArgs s_law_versions, defBody s_law_versions, defScope s_law_versions, [], []⟩
def d_law_after : He.DefD := ⟨("_law_after", none), "_law_after", "_law_after", defArgs s_law_after, defBody s_law_after, defScope s_law_after, [], []⟩
def d_law_number_of : He.DefD := ⟨("_law_number_of", none), "_law_number_of", "_law_number_of", defArgs s_law_number_of, defBody s_law_number_of, defScope s_law_number_of, [], []⟩
def d_law_numbers : He.DefD := ⟨("_law_numbers", none), "_law_numbers", "_law_numbers", defArgs s_law_numbers, defBody s_law_numbers, defScope s_law_numbers, [], []⟩
def d_law_kept : He.DefD := ⟨("_law_kept", none), "_law_kept", "_law_kept", defArgs s_law_kept, defBody s_law_kept, defScope s_law_kept, [], []⟩
def d_law_keeping : He.DefD := ⟨("_law_keeping", none), "_law_keeping", "_law_keeping", defArgs s_law_keeping, defBody s_law_keeping, defScope s_law_keeping, [], []⟩
def d_law_log_text : He.DefD := ⟨("_law_log_text", none), "_law_log_text", "_law_log_text", defArgs s_law_log_text, defBody s_law_log_text, defScope s_law_log_text, [], []⟩
def d_law_lock_text : He.DefD := ⟨("_law_lock_text", none), "_law_lock_text", "_law_lock_text", defArgs s_law_lock_text, defBody s_law_lock_text, defScope s_law_lock_text, [], []⟩
def d_law_small_packs : He.DefD := ⟨("_law_small_packs", none), "_law_small_packs", "_law_small_packs", defArgs s_law_small_packs, defBody s_law_small_packs, defScope s_law_small_packs, [], []⟩
def d_law_some_plan : He.DefD := ⟨("_law_some_plan", none), "_law_some_plan", "_law_some_plan", defArgs s_law_some_plan, defBody s_law_some_plan, defScope s_law_some_plan, [], []⟩
def d_law_drawn_log : He.DefD := ⟨("_law_drawn_log", none), "_law_drawn_log", "_law_drawn_log", defArgs s_law_drawn_log, defBody s_law_drawn_log, defScope s_law_drawn_log, [], []⟩
def d_law_drawn_files : He.DefD := ⟨("_law_drawn_files", none), "_law_drawn_files", "_law_drawn_files", defArgs s_law_drawn_files, defBody s_law_drawn_files, defScope s_law_drawn_files, [], []⟩
def d_law_is_cut_right : He.DefD := ⟨("_law_is_cut_right", none), "_law_is_cut_right", "_law_is_cut_right", defArgs s_law_is_cut_right, defBody s_law_is_cut_right, defScope s_law_is_cut_right, [], []⟩
def d_law : He.DefD := ⟨("law", none), "law", "law", defArgs s_law, defBody s_law, defScope s_law, [], []⟩
def fn : List He.DefD := [d_number_behind, d_is_shelf, d_shelves, d_kept, d_keeping, d_unshelving, d_done, d_in_order, d_after, d_cut, d_signs_of, d_all_cuts, d_law_bag, d_law_take, d_law_one, d_law_mixed, d_law_alike, d_law_versions, d_law_after, d_law_number_of, d_law_numbers, d_law_kept, d_law_keeping, d_law_log_text, d_law_lock_text, d_law_small_packs, d_law_some_plan, d_law_drawn_log, d_law_drawn_files, d_law_is_cut_right, d_law]
def fa1 : List He.Fa := [.glo "number_behind", .glo "is_shelf", .glo "shelves", .glo "kept", .glo "keeping", .glo "unshelving", .glo "done", .glo "in_order", .glo "after", .glo "cut", .glo "signs_of", .glo "all_cuts", .glo "_law_bag", .glo "_law_take", .glo "_law_one", .glo "_law_mixed", .glo "_law_alike", .glo "_law_versions", .glo "_law_after", .glo "_law_number_of"]
def fa2 : List He.Fa := [.glo "_law_numbers", .glo "_law_kept", .glo "_law_keeping", .glo "_law_log_text", .glo "_law_lock_text", .glo "_law_small_packs", .glo "_law_some_plan", .glo "_law_drawn_log", .glo "_law_drawn_files", .glo "_law_is_cut_right", .glo "law", .free "len", .free "all", .free "int", .free "sorted", .free "str", .free "range", .free "list", .free "dict", .free "abs", .free "set", .free "tuple", .free "repr", .str "SHELF" "store/c", .str "NEW" "store/new", .int "MOST_DIGITS" 19]
def fa : List He.Fa := fa1 ++ fa2
def tf : List He.Defn := [("shelves", none)]
def ex : PySem.W.Frag → Bool := fun _ => true
abbrev R : PySem.W.OpenRow := PySem.W.OpenLaw.row PySem.Challenge.rw_packsworn_k65_whole_shelves_are_whole
abbrev qv : Program := PySem.W.view R.prog [36]
abbrev hk : PySem.W.Hook := He.hookX 4 fa fn [] tf ex
def ob (s : PySem.W.SharedT) : He.AlX := He.obsX 4 fa fn [] tf ex (HandSHeadRun.getT s)
theorem ob_eq (s : PySem.W.SharedT) : ob s = hk.obs s.abs := He.obsX_eq (HandSHeadRun.getT_eq s)
def loose1 : List Str := [("SHELF" : Str), ("NEW" : Str), ("MOST_DIGITS" : Str), ("number_behind" : Str), ("is_shelf" : Str), ("shelves" : Str), ("kept" : Str), ("keeping" : Str), ("unshelving" : Str), ("done" : Str), ("in_order" : Str), ("after" : Str)]
def loose2 : List Str := [("cut" : Str), ("signs_of" : Str), ("all_cuts" : Str), ("_law_bag" : Str), ("_law_take" : Str), ("_law_one" : Str), ("_law_mixed" : Str), ("_law_alike" : Str), ("_law_versions" : Str), ("_law_after" : Str), ("_law_number_of" : Str), ("_law_numbers" : Str)]
def loose3 : List Str := [("_law_kept" : Str), ("_law_keeping" : Str), ("_law_log_text" : Str), ("_law_lock_text" : Str), ("_law_small_packs" : Str), ("_law_some_plan" : Str), ("_law_drawn_log" : Str), ("_law_drawn_files" : Str), ("_law_is_cut_right" : Str)]
def loose : List Str := loose1 ++ (loose2 ++ loose3)
theorem run (w : World) : HandSHeadRun.RunEq R qv hk ob 1500 loose w := by
  intro os
  kernel_rfl
/-! ### all defs, by the facts -/
abbrev cSh (K : PySem.W.Frag) : Addr := (He.cT K ("shelves", none)).1
abbrev tSh (K : PySem.W.Frag) : Addr := (He.cT K ("shelves", none)).2
theorem facts {P : Program} {w : World} {K : PySem.W.Frag} {h : Heap} {mg : Str → Option Value} (X : K.In h) (G : h.Ns mainGlobals mg) (c : He.SaysX fa fn [] tf ex w h K) :
    ∃ fd : FuncData, (∀ (s : Shared) (v : Value), BindsTo s fd ⟨[v], []⟩ [("_law_script", v)]) ∧ mg "law" = some (.ref (He.fAd K ("law", none))) ∧
      ∀ base : Heap, K.In base → base.Ns mainGlobals mg → TabB base mg (cSh K) (tSh K) → FnG P w K mg base 8 (He.fAd K ("law", none)) fd ["_law_script"] (spLaw [(tSh K, lamQ)] K) := by
  have cd := c.t.d
  have D_number_behind : PwDef K mg "number_behind" s_number_behind := let ⟨fd, F⟩ := cd.def_ 0 (d := d_number_behind) rfl; ⟨_, fd, F, He.glo_ok X G (cd.fact 0 (f := .glo "number_behind") rfl)⟩
  have D_is_shelf : PwDef K mg "is_shelf" s_is_shelf := let ⟨fd, F⟩ := cd.def_ 1 (d := d_is_shelf) rfl; ⟨_, fd, F, He.glo_ok X G (cd.fact 1 (f := .glo "is_shelf") rfl)⟩
  have D_shelves : PwDef K mg "shelves" s_shelves := let ⟨fd, F⟩ := cd.def_ 2 (d := d_shelves) rfl; ⟨_, fd, F, He.glo_ok X G (cd.fact 2 (f := .glo "shelves") rfl)⟩
  have D_kept : PwDef K mg "kept" s_kept := let ⟨fd, F⟩ := cd.def_ 3 (d := d_kept) rfl; ⟨_, fd, F, He.glo_ok X G (cd.fact 3 (f := .glo "kept") rfl)⟩
  have D_keeping : PwDef K mg "keeping" s_keeping := let ⟨fd, F⟩ := cd.def_ 4 (d := d_keeping) rfl; ⟨_, fd, F, He.glo_ok X G (cd.fact 4 (f := .glo "keeping") rfl)⟩
  have D_unshelving : PwDef K mg "unshelving" s_unshelving := let ⟨fd, F⟩ := cd.def_ 5 (d := d_unshelving) rfl; ⟨_, fd, F, He.glo_ok X G (cd.fact 5 (f := .glo "unshelving") rfl)⟩
  have D_done : PwDef K mg "done" s_done := let ⟨fd, F⟩ := cd.def_ 6 (d := d_done) rfl; ⟨_, fd, F, He.glo_ok X G (cd.fact 6 (f := .glo "done") rfl)⟩
  have D_in_order : PwDef K mg "in_order" s_in_order := let ⟨fd, F⟩ := cd.def_ 7 (d := d_in_order) rfl; ⟨_, fd, F, He.glo_ok X G (cd.fact 7 (f := .glo "in_order") rfl)⟩
  have D_after : PwDef K mg "after" s_after := let ⟨fd, F⟩ := cd.def_ 8 (d := d_after) rfl; ⟨_, fd, F, He.glo_ok X G (cd.fact 8 (f := .glo "after") rfl)⟩
  have D_cut : PwDef K mg "cut" s_cut := let ⟨fd, F⟩ := cd.def_ 9 (d := d_cut) rfl; ⟨_, fd, F, He.glo_ok X G (cd.fact 9 (f := .glo "cut") rfl)⟩
  have D_signs_of : PwDef K mg "signs_of" s_signs_of := let ⟨fd, F⟩ := cd.def_ 10 (d := d_signs_of) rfl; ⟨_, fd, F, He.glo_ok X G (cd.fact 10 (f := .glo "signs_of") rfl)⟩
  have D_all_cuts : PwDef K mg "all_cuts" s_all_cuts := let ⟨fd, F⟩ := cd.def_ 11 (d := d_all_cuts) rfl; ⟨_, fd, F, He.glo_ok X G (cd.fact 11 (f := .glo "all_cuts") rfl)⟩
  have D_law_bag : PwDef K mg "_law_bag" s_law_bag := let ⟨fd, F⟩ := cd.def_ 12 (d := d_law_bag) rfl; ⟨_, fd, F, He.glo_ok X G (cd.fact 12 (f := .glo "_law_bag") rfl)⟩
  have D_law_take : PwDef K mg "_law_take" s_law_take := let ⟨fd, F⟩ := cd.def_ 13 (d := d_law_take) rfl; ⟨_, fd, F, He.glo_ok X G (cd.fact 13 (f := .glo "_law_take") rfl)⟩
  have D_law_one : PwDef K mg "_law_one" s_law_one := let ⟨fd, F⟩ := cd.def_ 14 (d := d_law_one) rfl; ⟨_, fd, F, He.glo_ok X G (cd.fact 14 (f := .glo "_law_one") rfl)⟩
  have D_law_mixed : PwDef K mg "_law_mixed" s_law_mixed := let ⟨fd, F⟩ := cd.def_ 15 (d := d_law_mixed) rfl; ⟨_, fd, F, He.glo_ok X G (cd.fact 15 (f := .glo "_law_mixed") rfl)⟩
  have D_law_alike : PwDef K mg "_law_alike" s_law_alike := let ⟨fd, F⟩ := cd.def_ 16 (d := d_law_alike) rfl; ⟨_, fd, F, He.glo_ok X G (cd.fact 16 (f := .glo "_law_alike") rfl)⟩
  have D_law_versions : PwDef K mg "_law_versions" s_law_versions := let ⟨fd, F⟩ := cd.def_ 17 (d := d_law_versions) rfl; ⟨_, fd, F, He.glo_ok X G (cd.fact 17 (f := .glo "_law_versions") rfl)⟩
  have D_law_after : PwDef K mg "_law_after" s_law_after := let ⟨fd, F⟩ := cd.def_ 18 (d := d_law_after) rfl; ⟨_, fd, F, He.glo_ok X G (cd.fact 18 (f := .glo "_law_after") rfl)⟩
  have D_law_number_of : PwDef K mg "_law_number_of" s_law_number_of := let ⟨fd, F⟩ := cd.def_ 19 (d := d_law_number_of) rfl; ⟨_, fd, F, He.glo_ok X G (cd.fact 19 (f := .glo "_law_number_of") rfl)⟩
  have D_law_numbers : PwDef K mg "_law_numbers" s_law_numbers := let ⟨fd, F⟩ := cd.def_ 20 (d := d_law_numbers) rfl; ⟨_, fd, F, He.glo_ok X G (cd.fact 20 (f := .glo "_law_numbers") rfl)⟩
  have D_law_kept : PwDef K mg "_law_kept" s_law_kept := let ⟨fd, F⟩ := cd.def_ 21 (d := d_law_kept) rfl; ⟨_, fd, F, He.glo_ok X G (cd.fact 21 (f := .glo "_law_kept") rfl)⟩
  have D_law_keeping : PwDef K mg "_law_keeping" s_law_keeping := let ⟨fd, F⟩ := cd.def_ 22 (d := d_law_keeping) rfl; ⟨_, fd, F, He.glo_ok X G (cd.fact 22 (f := .glo "_law_keeping") rfl)⟩
  have D_law_log_text : PwDef K mg "_law_log_text" s_law_log_text := let ⟨fd, F⟩ := cd.def_ 23 (d := d_law_log_text) rfl; ⟨_, fd, F, He.glo_ok X G (cd.fact 23 (f := .glo "_law_log_text") rfl)⟩
  have D_law_lock_text : PwDef K mg "_law_lock_text" s_law_lock_text := let ⟨fd, F⟩ := cd.def_ 24 (d := d_law_lock_text) rfl; ⟨_, fd, F, He.glo_ok X G (cd.fact 24 (f := .glo "_law_lock_text") rfl)⟩
  have D_law_small_packs : PwDef K mg "_law_small_packs" s_law_small_packs := let ⟨fd, F⟩ := cd.def_ 25 (d := d_law_small_packs) rfl; ⟨_, fd, F, He.glo_ok X G (cd.fact 25 (f := .glo "_law_small_packs") rfl)⟩
  have D_law_some_plan : PwDef K mg "_law_some_plan" s_law_some_plan := let ⟨fd, F⟩ := cd.def_ 26 (d := d_law_some_plan) rfl; ⟨_, fd, F, He.glo_ok X G (cd.fact 26 (f := .glo "_law_some_plan") rfl)⟩
  have D_law_drawn_log : PwDef K mg "_law_drawn_log" s_law_drawn_log := let ⟨fd, F⟩ := cd.def_ 27 (d := d_law_drawn_log) rfl; ⟨_, fd, F, He.glo_ok X G (cd.fact 27 (f := .glo "_law_drawn_log") rfl)⟩
  have D_law_drawn_files : PwDef K mg "_law_drawn_files" s_law_drawn_files := let ⟨fd, F⟩ := cd.def_ 28 (d := d_law_drawn_files) rfl; ⟨_, fd, F, He.glo_ok X G (cd.fact 28 (f := .glo "_law_drawn_files") rfl)⟩
  have D_law_is_cut_right : PwDef K mg "_law_is_cut_right" s_law_is_cut_right := let ⟨fd, F⟩ := cd.def_ 29 (d := d_law_is_cut_right) rfl; ⟨_, fd, F, He.glo_ok X G (cd.fact 29 (f := .glo "_law_is_cut_right") rfl)⟩
  have g_len : mg "len" = none := He.free_ok X G (cd.fact 31 (f := .free "len") rfl)
  have g_all : mg "all" = none := He.free_ok X G (cd.fact 32 (f := .free "all") rfl)
  have g_int : mg "int" = none := He.free_ok X G (cd.fact 33 (f := .free "int") rfl)
  have g_sorted : mg "sorted" = none := He.free_ok X G (cd.fact 34 (f := .free "sorted") rfl)
  have g_str : mg "str" = none := He.free_ok X G (cd.fact 35 (f := .free "str") rfl)
  have g_range : mg "range" = none := He.free_ok X G (cd.fact 36 (f := .free "range") rfl)
  have g_list : mg "list" = none := He.free_ok X G (cd.fact 37 (f := .free "list") rfl)
  have g_dict : mg "dict" = none := He.free_ok X G (cd.fact 38 (f := .free "dict") rfl)
  have g_abs : mg "abs" = none := He.free_ok X G (cd.fact 39 (f := .free "abs") rfl)
  have g_set : mg "set" = none := He.free_ok X G (cd.fact 40 (f := .free "set") rfl)
  have g_tuple : mg "tuple" = none := He.free_ok X G (cd.fact 41 (f := .free "tuple") rfl)
  have g_repr : mg "repr" = none := He.free_ok X G (cd.fact 42 (f := .free "repr") rfl)
  have mS : ∃ t, mg "SHELF" = some (.str SH t) := He.str_ok X G (cd.fact 43 (f := .str "SHELF" "store/c") rfl)
  have mN : ∃ t, mg "NEW" = some (.str NEW t) := He.str_ok X G (cd.fact 44 (f := .str "NEW" "store/new") rfl)
  have mM : ∃ t, mg "MOST_DIGITS" = some (.int 19 t) := He.int_ok X G (cd.fact 45 (f := .int "MOST_DIGITS" 19) rfl)
  have DC : PwDefC K mg "shelves" s_shelves (cSh K) := by
    obtain ⟨fd, F⟩ := cd.def_ 2 (d := d_shelves) rfl
    obtain ⟨oc, od, dV, kV, doc, pm, an, cdv, ct, osl, e, lk, hcd, r⟩ := id F.ex
    obtain ⟨cc, rfl⟩ := He.codeIn_ref hcd
    have e2 : fd.code = .ref cc := by rw [e] <;> rfl
    have e3 : cSh K = cc := He.codeOf_eq lk e2
    exact ⟨_, fd, F, He.glo_ok X G (cd.fact 2 (f := .glo "shelves") rfl), by rw [e3]; exact e2⟩
  obtain ⟨fd, F⟩ := cd.def_ 30 (d := d_law) rfl
  have bl := FunD.bindsA (ps := ["_law_script"]) F fun _ _ _ _ _ _ us hl => match us, hl with | [_], _ => rfl
  refine ⟨fd, fun s v => bl s [v] rfl, He.glo_ok X G (cd.fact 30 (f := .glo "law") rfl), fun base _ _ TB => ?_⟩
  have cNb := ok_nb (P := P) (w := w) (base := base) (T := [(tSh K, lamQ)]) D_number_behind g_len g_all g_int mM
  have cIs := ok_is D_is_shelf cNb mS
  have cShv := ok_sh DC TB cIs cNb mS g_sorted
  have cKept := ok_kept D_kept cShv g_sorted
  have cKeep := ok_keep D_keeping cKept cShv mS mN g_str
  have cUnsh := ok_unsh D_unshelving cShv mN
  have cDone := ok_done (P := P) (w := w) (base := base) (T := [(tSh K, lamQ)]) D_done
  have cOrd := ok_ord (P := P) (w := w) (base := base) (T := [(tSh K, lamQ)]) D_in_order g_sorted
  have cAfter := ok_after D_after cDone cOrd g_dict
  have cCut := ok_cut D_cut cAfter cOrd g_len
  have cSigns := ok_signs (P := P) (w := w) (base := base) (T := [(tSh K, lamQ)]) D_signs_of g_len g_range g_list
  have cAll := ok_all D_all_cuts cCut cSigns g_len g_range
  have cLA := ok_lafter (P := P) (w := w) (base := base) (T := [(tSh K, lamQ)]) D_law_after g_dict
  have cNo := ok_no (P := P) (w := w) (base := base) (T := [(tSh K, lamQ)]) D_law_number_of g_len g_int g_str
  have cNums := ok_nums D_law_numbers cNo g_sorted
  have cLK := ok_lkept D_law_kept cNums g_sorted g_dict g_str
  have cLKeep := ok_lkeep D_law_keeping cLK cNums cLA g_dict g_int g_str
  have cRight := ok_right D_law_is_cut_right cNums cNo g_len g_set g_list g_str
  have cBag := ok_bag (P := P) (w := w) (base := base) (T := [(tSh K, lamQ)]) D_law_bag g_abs
  have cTake := ok_take (P := P) (w := w) (base := base) (T := [(tSh K, lamQ)]) D_law_take g_int
  have cOne := ok_one D_law_one cTake g_len
  have cMixed := ok_mixed D_law_mixed cTake g_len
  have cVers := ok_vers D_law_versions cOne cTake g_range g_sorted g_set
  have cPacks := ok_packs D_law_small_packs cVers cOne cTake g_sorted g_tuple
  have cLogT := ok_logT (P := P) (w := w) (base := base) (T := [(tSh K, lamQ)]) D_law_log_text g_len g_str
  have cPlan := ok_plan D_law_some_plan cMixed cTake g_list g_tuple
  have cLock := ok_lock (P := P) (w := w) (base := base) (T := [(tSh K, lamQ)]) D_law_lock_text g_sorted g_str g_list
  have cDLog := ok_dlog D_law_drawn_log cNums cOne cTake cLogT g_str g_int g_range g_tuple g_len
  have cDFiles := ok_dfiles D_law_drawn_files cMixed cOne cTake cPlan cLock cDLog g_str g_list g_dict
  have gAl := ok_alike (P := P) (w := w) (base := base) (T := [(tSh K, lamQ)]) D_law_alike g_repr
  exact ok_law ⟨cBag, cTake, cOne, cPacks, cDFiles, cKeep, cLKeep, cAll, cRight, cAfter, cLA, cKept, cLK, cUnsh, gAl, g_range⟩ F
end Pw
open PySem PySem.W PySem.Calls PyProof.Rows
theorem PySem.Challenge.cw_packsworn_k65_whole_shelves_are_whole_holds : PySem.Challenge.rw_packsworn_k65_whole_shelves_are_whole.Holds := by
  w_on; o_law
  refine HandSHeadRun.head_any (r := OpenLaw.row PySem.Challenge.rw_packsworn_k65_whole_shelves_are_whole) (q := Pw.qv) (H := Pw.hk) (ob := Pw.ob) (M := 1500) (loose := Pw.loose) (d := HandSHeadRun.topDef (OpenLaw.row PySem.Challenge.rw_packsworn_k65_whole_shelves_are_whole).prog 36) (kwd := []) Pw.ob_eq
    (by kernel_rfl) (fun s => by kernel_rfl) Pw.run (by kernel_rfl) (by kernel_rfl) (by kernel_rfl) (by rfl) (by first | assumption | decide +kernel) (by decide +kernel) ⟨rfl, rfl, rfl, rfl, rfl, by decide +kernel⟩ ?hw ?hc
  case hw => w_witness2
  case hc =>
    refine Att.attach_callB (n := 63) rfl (by kernel_rfl) fun w s₀ s₁ mg mb fa o pm cd doc a vs ns G Y ho hd hcd hmg0 hobj hints hlen hbits hg => ?_
    obtain ⟨K, KX, c⟩ := Y
    have hmg : mg ("law" : PySem.Str) = some (.ref fa) := by
      have e : (HandSHeadRun.topDef (OpenLaw.row PySem.Challenge.rw_packsworn_k65_whole_shelves_are_whole).prog 36).name = ("law" : PySem.Str) := by kernel_rfl
      rw [← e]
      exact hmg0
    obtain ⟨fd, hb, hfa, hF⟩ := Pw.facts (P := (PySem.Challenge.rw_packsworn_k65_whole_shelves_are_whole).prog) (w := w) KX G.T.g c
    have e2 := hmg.symm.trans hfa
    cases e2
    exact Pw.end_call KX G.T.g G.T.b G.T.builtins G.T.nolimit hg (c.empty _ List.mem_cons_self) (c.out _ List.mem_cons_self) (codeHd_of_K KX (c.hd _ List.mem_cons_self)) G.T.bmain hobj hints (Nat.le_trans hlen (by decide)) ⟨rfl, by decide, by decide⟩ hF (fun u => hb s₁ u)
      fun H h1 h3 => ⟨a, ns, rfl, h3, hlen, fun p hp => by rw [List.mem_singleton.mp hp]; exact LamX.TabS.nil h1, fun _ => rfl⟩
