import PyProof.Rows.All
import Wide.All
import OpenK.AllK
import Wide.FinOn
import PySem.Challenge.RW_ringwords_k49_whole_surfaces_told_otherw
import HandS.ForMost
import HandS.Evl
import KE.SortData
import PyProof.ReprRoads
import PyProof.ReprLen
import PyProof.ListStr
import PyProof.StrOps2
import PyProof.SliceStr
import HandS.Codes
import HandS.Walk
import HandS.Replace
import HandS.IsInst
import HandS.Strs
import HandS.TupAny
import HandS.More
import HandS.Wide
import HandS.Flow
import PyProof.StrLawsFirst
import HandS.SortInts
set_option linter.all false
namespace RW
abbrev Wd := List Nat
/-- a letter's back -/
def bk (c : Nat) : Nat := if 97 ≤ c then c - 32 else c + 32
def isLK (K c : Nat) : Prop := (97 ≤ c ∧ c < 97 + K) ∨ (65 ≤ c ∧ c < 65 + K)
theorem bk_isLK {K c : Nat} (hK : K ≤ 6) (h : isLK K c) : isLK K (bk c) := by
  unfold isLK bk at *
  split <;> omega
theorem bk_bk {K c : Nat} (hK : K ≤ 6) (h : isLK K c) : bk (bk c) = c := by
  unfold isLK bk at *
  repeat' split
  all_goals omega
theorem bk_ne (c : Nat) : bk c ≠ c := by
  unfold bk
  split <;> omega
theorem bk_inj {K c d : Nat} (hK : K ≤ 6) (h : isLK K c) (h' : isLK K d) (e : bk c = bk d) : c = d := by
  rw [← bk_bk hK h, e, bk_bk hK h']

/-! ### places in a row without repeats -/
theorem idx_get {l : Wd} (nd : l.Nodup) {i c : Nat} (h : l[i]? = some c) : l.idxOf c = i := by
  obtain ⟨hi, e⟩ := List.getElem?_eq_some_iff.mp h
  have hm : c ∈ l := by rw [← e]; exact List.getElem_mem hi
  have hl : l.idxOf c < l.length := List.idxOf_lt_length_iff.mpr hm
  have e2 : l[l.idxOf c] = c := List.getElem_idxOf hl
  exact (List.getElem_inj nd).mp (e2.trans e.symm)
theorem idx_lt {l : Wd} {c : Nat} (h : c ∈ l) : l.idxOf c < l.length := List.idxOf_lt_length_iff.mpr h
theorem get_idx {l : Wd} {c : Nat} (h : c ∈ l) : l[l.idxOf c]? = some c := by
  rw [List.getElem?_eq_getElem (idx_lt h), List.getElem_idxOf]
theorem idx_inj {l : Wd} {c d : Nat} (h : c ∈ l) (h' : d ∈ l) (e : l.idxOf c = l.idxOf d) : c = d := by
  have a := get_idx h
  rw [e, get_idx h'] at a
  exact (Option.some.inj a).symm

/-- how far one goes round from b to o -/
def ds (S : Wd) (b o : Nat) : Nat := if S.idxOf b ≤ S.idxOf o then S.idxOf o - S.idxOf b else S.idxOf o + S.length - S.idxOf b
/-- going round from b one meets o ahead of t -/
def cf (S : Wd) (b o t : Nat) : Bool := decide (ds S b o < ds S b t)

def rot (S : Wd) (a : Nat) : Wd := S.drop a ++ S.take a
theorem rot_len {S : Wd} {a : Nat} (h : a ≤ S.length) : (rot S a).length = S.length := by
  unfold rot
  rw [List.length_append, List.length_drop, List.length_take]
  omega
theorem rot_perm (S : Wd) (a : Nat) : (rot S a).Perm S := by
  have h : (S.drop a ++ S.take a).Perm (S.take a ++ S.drop a) := List.perm_append_comm
  rw [List.take_append_drop] at h
  exact h
theorem rot_nd {S : Wd} (a : Nat) (nd : S.Nodup) : (rot S a).Nodup := (rot_perm S a).nodup_iff.mpr nd
theorem rot_mem {S : Wd} {a c : Nat} : c ∈ rot S a ↔ c ∈ S := (rot_perm S a).mem_iff
theorem rot_idx {S : Wd} {a c : Nat} (nd : S.Nodup) (ha : a ≤ S.length) (h : c ∈ S) : (rot S a).idxOf c = if a ≤ S.idxOf c then S.idxOf c - a else S.idxOf c + S.length - a := by
  have hl := idx_lt h
  have hg := get_idx h
  refine idx_get (rot_nd a nd) ?_
  unfold rot
  split
  · rename_i q
    rw [List.getElem?_append_left (by rw [List.length_drop]; omega), List.getElem?_drop]
    rw [show a + (S.idxOf c - a) = S.idxOf c by omega]
    exact hg
  · rename_i q
    rw [List.getElem?_append_right (by rw [List.length_drop]; omega), List.length_drop, List.getElem?_take_of_lt (by omega)]
    rw [show S.idxOf c + S.length - a - (S.length - a) = S.idxOf c by omega]
    exact hg
theorem rev_idx {S : Wd} {c : Nat} (nd : S.Nodup) (h : c ∈ S) : S.reverse.idxOf c = S.length - 1 - S.idxOf c := by
  have hl := idx_lt h
  refine idx_get ((List.reverse_perm S).nodup_iff.mpr nd) ?_
  rw [List.getElem?_reverse (by omega)]
  rw [show S.length - 1 - (S.length - 1 - S.idxOf c) = S.idxOf c by omega]
  exact get_idx h
theorem map_nd {σ : Nat → Nat} : ∀ {S : Wd}, (∀ c ∈ S, ∀ d ∈ S, σ c = σ d → c = d) → S.Nodup → (S.map σ).Nodup
  | [], _, _ => List.nodup_nil
  | c :: S, hi, nd => by
    rw [List.map_cons, List.nodup_cons]
    rw [List.nodup_cons] at nd
    refine ⟨fun hm => ?_, map_nd (fun a ha b hb => hi a (List.mem_cons_of_mem _ ha) b (List.mem_cons_of_mem _ hb)) nd.2⟩
    obtain ⟨d, hd, e⟩ := List.mem_map.mp hm
    have e2 := hi d (List.mem_cons_of_mem _ hd) c List.mem_cons_self e
    subst e2
    exact nd.1 hd
theorem map_idx {σ : Nat → Nat} {S : Wd} {c : Nat} (hi : ∀ c ∈ S, ∀ d ∈ S, σ c = σ d → c = d) (nd : S.Nodup) (h : c ∈ S) : (S.map σ).idxOf (σ c) = S.idxOf c := by
  refine idx_get (map_nd hi nd) ?_
  rw [List.getElem?_map, get_idx h]
  rfl

/-! ### the order round -/
section
variable {S : Wd} {b o t f l e x y a c : Nat}
theorem ds_rot (nd : S.Nodup) (ha : a ≤ S.length) (hb : b ∈ S) (ho : o ∈ S) : ds (rot S a) b o = ds S b o := by
  have h1 := idx_lt hb
  have h2 := idx_lt ho
  unfold ds
  rw [rot_idx nd ha hb, rot_idx nd ha ho, rot_len ha]
  repeat' split
  all_goals omega
theorem cf_rot (nd : S.Nodup) (ha : a ≤ S.length) (hb : b ∈ S) (ho : o ∈ S) (ht : t ∈ S) : cf (rot S a) b o t = cf S b o t := by
  unfold cf
  rw [ds_rot nd ha hb ho, ds_rot nd ha hb ht]
theorem ds_rev (nd : S.Nodup) (hb : b ∈ S) (ho : o ∈ S) (ne : o ≠ b) : ds S.reverse b o = S.length - ds S b o := by
  have h1 := idx_lt hb
  have h2 := idx_lt ho
  have h3 : S.idxOf o ≠ S.idxOf b := fun q => ne (idx_inj ho hb q)
  unfold ds
  rw [rev_idx nd hb, rev_idx nd ho, List.length_reverse]
  repeat' split
  all_goals omega
theorem ds_lt (hb : b ∈ S) (ho : o ∈ S) : ds S b o < S.length := by
  have h1 := idx_lt hb
  have h2 := idx_lt ho
  unfold ds
  split <;> omega
theorem ds_inj (hb : b ∈ S) (ho : o ∈ S) (ht : t ∈ S) (e : ds S b o = ds S b t) : o = t := by
  have h1 := idx_lt hb
  have h2 := idx_lt ho
  have h3 := idx_lt ht
  refine idx_inj ho ht ?_
  unfold ds at e
  split at e <;> split at e <;> omega
theorem ds_self : ds S b b = 0 := by
  unfold ds
  rw [if_pos (Nat.le_refl _)]
  omega
theorem cf_rev (nd : S.Nodup) (hb : b ∈ S) (ho : o ∈ S) (ht : t ∈ S) (n1 : o ≠ b) (n2 : t ≠ b) (n3 : o ≠ t) : cf S.reverse b o t = !cf S b o t := by
  have h1 := ds_lt hb ho
  have h2 := ds_lt hb ht
  have h3 : ds S b o ≠ ds S b t := fun q => n3 (ds_inj hb ho ht q)
  unfold cf
  rw [ds_rev nd hb ho n1, ds_rev nd hb ht n2]
  by_cases q : ds S b o < ds S b t
  · rw [decide_eq_true q, decide_eq_false (by omega)]
    rfl
  · rw [decide_eq_false q, decide_eq_true (by omega)]
    rfl
theorem cf_swap (hb : b ∈ S) (ho : o ∈ S) (ht : t ∈ S) (n : o ≠ t) : cf S b t o = !cf S b o t := by
  have h3 : ds S b o ≠ ds S b t := fun q => n (ds_inj hb ho ht q)
  unfold cf
  by_cases q : ds S b o < ds S b t
  · rw [decide_eq_true q, decide_eq_false (by omega)]
    rfl
  · rw [decide_eq_false q, decide_eq_true (by omega)]
    rfl
theorem cf_map {σ : Nat → Nat} (hi : ∀ c ∈ S, ∀ d ∈ S, σ c = σ d → c = d) (nd : S.Nodup) (hb : b ∈ S) (ho : o ∈ S) (ht : t ∈ S) : cf (S.map σ) (σ b) (σ o) (σ t) = cf S b o t := by
  unfold cf ds
  rw [map_idx hi nd hb, map_idx hi nd ho, map_idx hi nd ht, List.length_map]

/-! ### chords -/
def crs (S : Wd) (f l b e : Nat) : Bool := cf S f b l != cf S f e l
theorem crs_turn (hf : f ∈ S) (hl : l ∈ S) (hb : b ∈ S) (he : e ∈ S) (n1 : f ≠ l) (n2 : f ≠ b) (n3 : f ≠ e) (n4 : l ≠ b) (n5 : l ≠ e) (n6 : b ≠ e) : crs S l f b e = crs S f l b e := by
  have h1 := idx_lt hf
  have h2 := idx_lt hl
  have h3 := idx_lt hb
  have h4 := idx_lt he
  have m1 : S.idxOf f ≠ S.idxOf l := fun q => n1 (idx_inj hf hl q)
  have m2 : S.idxOf f ≠ S.idxOf b := fun q => n2 (idx_inj hf hb q)
  have m3 : S.idxOf f ≠ S.idxOf e := fun q => n3 (idx_inj hf he q)
  have m4 : S.idxOf l ≠ S.idxOf b := fun q => n4 (idx_inj hl hb q)
  have m5 : S.idxOf l ≠ S.idxOf e := fun q => n5 (idx_inj hl he q)
  have m6 : S.idxOf b ≠ S.idxOf e := fun q => n6 (idx_inj hb he q)
  unfold crs cf ds
  generalize S.idxOf f = i at *
  generalize S.idxOf l = j at *
  generalize S.idxOf b = k at *
  generalize S.idxOf e = m at *
  rw [Bool.eq_iff_iff, bne_iff_ne, bne_iff_ne, Ne, Ne, decide_eq_decide, decide_eq_decide]
  repeat' split
  all_goals omega
theorem crs_swap (hf : f ∈ S) (hl : l ∈ S) (hb : b ∈ S) (he : e ∈ S) (n1 : f ≠ l) (n2 : f ≠ b) (n3 : f ≠ e) (n4 : l ≠ b) (n5 : l ≠ e) (n6 : b ≠ e) : crs S b e f l = crs S f l b e := by
  have h1 := idx_lt hf
  have h2 := idx_lt hl
  have h3 := idx_lt hb
  have h4 := idx_lt he
  have m1 : S.idxOf f ≠ S.idxOf l := fun q => n1 (idx_inj hf hl q)
  have m2 : S.idxOf f ≠ S.idxOf b := fun q => n2 (idx_inj hf hb q)
  have m3 : S.idxOf f ≠ S.idxOf e := fun q => n3 (idx_inj hf he q)
  have m4 : S.idxOf l ≠ S.idxOf b := fun q => n4 (idx_inj hl hb q)
  have m5 : S.idxOf l ≠ S.idxOf e := fun q => n5 (idx_inj hl he q)
  have m6 : S.idxOf b ≠ S.idxOf e := fun q => n6 (idx_inj hb he q)
  unfold crs cf ds
  generalize S.idxOf f = i at *
  generalize S.idxOf l = j at *
  generalize S.idxOf b = k at *
  generalize S.idxOf e = m at *
  rw [Bool.eq_iff_iff, bne_iff_ne, bne_iff_ne, Ne, Ne, decide_eq_decide, decide_eq_decide]
  repeat' split
  all_goals omega

/-! ### sides, of two letters -/
def side (S : Wd) (x X y Y : Nat) : Int := if (decide (ds S x y < ds S x X)) = (decide (ds S x Y < ds S x X)) then 0 else if ds S x y < ds S x Y then 1 else -1
theorem side_back (hx : x ∈ S) (hX : f ∈ S) (hy : y ∈ S) (hY : l ∈ S) (n1 : y ≠ l) : side S x f l y = -side S x f y l := by
  have h3 : ds S x y ≠ ds S x l := fun q => n1 (ds_inj hx hy hY q)
  unfold side
  simp only [decide_eq_decide]
  repeat' split
  all_goals omega
theorem ds_base (hx : x ∈ S) (hf : f ∈ S) (hy : y ∈ S) : ds S f y = if ds S x f ≤ ds S x y then ds S x y - ds S x f else ds S x y + S.length - ds S x f := by
  have h1 := idx_lt hx
  have h2 := idx_lt hf
  have h3 := idx_lt hy
  unfold ds
  generalize S.idxOf x = i at *
  generalize S.idxOf f = j at *
  generalize S.idxOf y = k at *
  repeat' split
  all_goals omega
theorem ds_ne (hx : x ∈ S) (hy : y ∈ S) (n : y ≠ x) : ds S x y ≠ 0 := fun q => n (ds_inj hx hy hx (q.trans ds_self.symm))
theorem side_xback (hx : x ∈ S) (hX : f ∈ S) (hy : y ∈ S) (hY : l ∈ S) (n1 : x ≠ f) (n2 : x ≠ y) (n3 : x ≠ l) (n4 : f ≠ y) (n5 : f ≠ l) (n6 : y ≠ l) : side S f x y l = -side S x f y l := by
  have h1 := ds_lt hx hX
  have h2 := ds_lt hx hy
  have h3 := ds_lt hx hY
  have m1 : ds S x f ≠ ds S x y := fun q => n4 (ds_inj hx hX hy q)
  have m2 : ds S x f ≠ ds S x l := fun q => n5 (ds_inj hx hX hY q)
  have m3 : ds S x y ≠ ds S x l := fun q => n6 (ds_inj hx hy hY q)
  have p1 := ds_ne hx hX (Ne.symm n1)
  have p2 := ds_ne hx hy (Ne.symm n2)
  have p3 := ds_ne hx hY (Ne.symm n3)
  unfold side
  rw [ds_base hx hX hx, ds_base hx hX hy, ds_base hx hX hY, ds_self]
  simp only [decide_eq_decide]
  generalize ds S x f = i at *
  generalize ds S x y = k at *
  generalize ds S x l = m at *
  rcases Nat.lt_or_ge k i with q1 | q1 <;> rcases Nat.lt_or_ge m i with q2 | q2 <;> rcases Nat.lt_or_ge m k with q3 | q3 <;> (repeat' split) <;> omega
theorem side_swap (hx : x ∈ S) (hX : f ∈ S) (hy : y ∈ S) (hY : l ∈ S) (n1 : x ≠ f) (n2 : x ≠ y) (n3 : x ≠ l) (n4 : f ≠ y) (n5 : f ≠ l) (n6 : y ≠ l) : side S y l x f = -side S x f y l := by
  have h1 := ds_lt hx hX
  have h2 := ds_lt hx hy
  have h3 := ds_lt hx hY
  have m1 : ds S x f ≠ ds S x y := fun q => n4 (ds_inj hx hX hy q)
  have m2 : ds S x f ≠ ds S x l := fun q => n5 (ds_inj hx hX hY q)
  have m3 : ds S x y ≠ ds S x l := fun q => n6 (ds_inj hx hy hY q)
  have p1 := ds_ne hx hX (Ne.symm n1)
  have p2 := ds_ne hx hy (Ne.symm n2)
  have p3 := ds_ne hx hY (Ne.symm n3)
  unfold side
  rw [ds_base hx hy hx, ds_base hx hy hX, ds_base hx hy hY, ds_self]
  simp only [decide_eq_decide]
  generalize ds S x f = i at *
  generalize ds S x y = k at *
  generalize ds S x l = m at *
  rcases Nat.lt_or_ge k i with q1 | q1 <;> rcases Nat.lt_or_ge m i with q2 | q2 <;> rcases Nat.lt_or_ge m k with q3 | q3 <;> (repeat' split) <;> omega
theorem side_rev (nd : S.Nodup) (hx : x ∈ S) (hX : f ∈ S) (hy : y ∈ S) (hY : l ∈ S) (n1 : x ≠ f) (n2 : x ≠ y) (n3 : x ≠ l) (n4 : f ≠ y) (n5 : f ≠ l) (n6 : y ≠ l) : side S.reverse x f y l = -side S x f y l := by
  have h1 := ds_lt hx hX
  have h2 := ds_lt hx hy
  have h3 := ds_lt hx hY
  have m1 : ds S x f ≠ ds S x y := fun q => n4 (ds_inj hx hX hy q)
  have m2 : ds S x f ≠ ds S x l := fun q => n5 (ds_inj hx hX hY q)
  have m3 : ds S x y ≠ ds S x l := fun q => n6 (ds_inj hx hy hY q)
  unfold side
  rw [ds_rev nd hx hX (Ne.symm n1), ds_rev nd hx hy (Ne.symm n2), ds_rev nd hx hY (Ne.symm n3)]
  simp only [decide_eq_decide]
  repeat' split
  all_goals omega
theorem side_map {σ : Nat → Nat} (hi : ∀ c ∈ S, ∀ d ∈ S, σ c = σ d → c = d) (nd : S.Nodup) (hx : x ∈ S) (hX : f ∈ S) (hy : y ∈ S) (hY : l ∈ S) : side (S.map σ) (σ x) (σ f) (σ y) (σ l) = side S x f y l := by
  unfold side ds
  rw [map_idx hi nd hx, map_idx hi nd hX, map_idx hi nd hy, map_idx hi nd hY, List.length_map]
end
end RW
set_option Elab.async false
set_option linter.all false
set_option maxRecDepth 100000
set_option maxHeartbeats 2000000
namespace RW
open PySem PySem.Spec PyProof.Rows L2

/-! ### repr of data, where no guard is under way -/
def rReprD (K : PySem.W.Frag) : List V → Hp → VK → Prop := fun vs H Q => ∃ (a : Addr) (d : PyData), vs = [.ref a] ∧ Dp K H (.ref a) d ∧ d.showable = true ∧ d.hasDict = false ∧ d.depth ≤ 60 ∧ d.shown.length ≤ sizeLine ∧ Q (.str d.shown) H
section
variable {X : Cx}
theorem cr_reprD {k : Nat} (hg : X.A.guards = some []) (hr : Room k X.A) : CallR X (.builtin "repr") (rReprD X.K) := by
  intro pins s σ H vs us Q I r h
  obtain ⟨a, d, rfl, hd, hs, hn, hdep, hsz, q⟩ := h
  rw [Vals.ref1 r]
  obtain ⟨as, hrd⟩ := Dp.reads I d (.ref a) (.ref a) hd rfl
  have hu := hr.units
  refine repr_of_reads' (h₀ := s.heap) hrd hs (fun e => absurd (hn.symm.trans e) Bool.false_ne_true) hg (by omega) (fun _ _ e => e) (fun h' u tk hk => ?_) hsz
  exact ⟨.str d.shown, H, I.kept (t' := tk) hk, ⟨u, rfl⟩, q⟩

/-! ### sorted of data -/
/-- the values in the order of what they are read as -/
def sortV (enc : V → PyData) (xs : List V) : List V := xs.mergeSort (PySem.W.dataLe false enc)
def rSortedD (K : PySem.W.Frag) : List V → Hp → VK → Prop := fun vs H Q => ∃ (a : Addr) (xs : List V) (enc : V → PyData), vs = [.ref a] ∧ SqL K H a xs ∧ (∀ x ∈ xs, Dp K H x (enc x)) ∧ PySem.W.AllAlike (xs.map enc) ∧ PySem.W.Sortable (xs.map enc) ∧
  (∀ x ∈ xs, (enc x).depth ≤ 50) ∧ ∀ p, H p = none → Q (.ref p) (upd H p (.lst (sortV enc xs)))
theorem each_of_vals {R : Value → V → Prop} : ∀ {xs : List V} {us : List Value}, Vals xs us → (∀ (x : V) (u : Value), x ∈ xs → RelV x u → R u x) → PySem.W.EachIs R us xs
  | _, _, .nil, _ => .nil
  | _, _, .cons r t, h => .cons (h _ _ List.mem_cons_self r) (each_of_vals t fun x u hx => h x u (List.mem_cons_of_mem _ hx))
theorem vals_of_each : ∀ {xs : List V} {us : List Value}, PySem.W.EachIs (fun u x => RelV x u) us xs → Vals xs us
  | _, _, .nil => .nil
  | _, _, .cons r t => .cons r (vals_of_each t)
theorem cr_sortedD {k : Nat} (hr : Room k X.A) : CallR X (.builtin "sorted") (rSortedD X.K) := by
  intro pins s σ H vs us Q I r h
  obtain ⟨a, xs, enc, rfl, hx, hd, hal, hso, hdep, q⟩ := h
  rw [Vals.ref1 r]
  obtain ⟨its, rv, hl, hz⟩ := I.list hx
  have hu := hr.units
  refine PySem.W.sorted_data (R := fun u x => RelV x u) (enc := enc) (bs := xs) hl.isList (each_of_vals rv fun x u _ e => e) (each_of_vals rv fun x u hm e => Dp.reads I (enc x) x u (hd x hm) e) hal hso hz (fun b hb => by have := hdep b hb; omega) fun out ho eo => ?_
  obtain ⟨ep, he'⟩ := PyProof.Rows.sortedAll_at s.heap its out.toArray
  have hlen : (sortV enc xs).length ≤ sizeLine := by
    unfold sortV
    rw [List.length_mergeSort]
    exact hz
  exact ⟨.ref _, upd H (s.heap.objs.size + 1) (.lst (sortV enc xs)), I.laid (t' := s.toks) (fun _ _ => PyProof.Rows.sortedAll_old) (Nat.le_succ _) ⟨hlen, out, ep, vals_of_each eo, he'⟩, rfl, q _ (I.hok.fresh (Nat.le_succ _))⟩

/-! ### list of a text -/
def oneS (c : Nat) : V := .str ⟨#[c]⟩
def rListS (_ : PySem.W.Frag) : List V → Hp → VK → Prop := fun vs H Q => ∃ z : Str, vs = [.str z] ∧ z.length ≤ sizeLine ∧ ∀ p, H p = none → Q (.ref p) (upd H p (.lst (z.cps.toList.map oneS)))
theorem cr_listS (hc : X.calm = true) : CallR X (.type "list") (rListS X.K) := by
  intro pins s σ H vs us Q I r h
  obtain ⟨z, rfl, hz, q⟩ := h
  obtain ⟨u, rfl, t, rfl⟩ := vals1 r
  refine call_list_str (hn := hz) (I.ok.hd hc) z t fun h' tk acc' c' hk hS hacc => ?_
  have rv : Vals (z.cps.toList.map oneS) acc'.toList := by
    obtain ⟨h1, h2⟩ := hacc
    have key : ∀ (l : List Nat) (us : List Value), us.length = l.length → (∀ (j : Nat) (u : Value), us[j]? = some u → ∃ (c : Nat) (t : Tok), l[j]? = some c ∧ u = Value.str ⟨#[c]⟩ t) → Vals (l.map oneS) us := by
      intro l
      induction l with
      | nil =>
        intro us hl _
        rw [List.eq_nil_of_length_eq_zero hl]
        exact .nil
      | cons c l ih =>
        intro us hl hu
        cases us with
        | nil => simp at hl
        | cons u us =>
          obtain ⟨c', t', e1, e2⟩ := hu 0 u rfl
          have e1' : c = c' := by simpa using e1
          subst e1'
          refine .cons ⟨t', e2⟩ (ih us (by simpa using hl) fun j v hv => ?_)
          obtain ⟨c2, t2, e3, e4⟩ := hu (j + 1) v (by simpa using hv)
          exact ⟨c2, t2, by simpa using e3, e4⟩
    refine key _ _ (by simp [h1]) fun j u hj => ?_
    obtain ⟨c, t, h3, h4⟩ := h2 j u (by simpa using hj)
    exact ⟨c, t, by simpa using h3, h4⟩
  refine ⟨.ref _, upd H s.heap.objs.size (.lst (z.cps.toList.map oneS)), I.laid (t' := tk) hk (Nat.le_refl _) ⟨?_, acc'.toList, c', rv, ?_⟩, rfl, q _ (I.hok.fresh (Nat.le_refl _))⟩
  · rw [List.length_map, Array.length_toList]
    exact hz
  · exact hS

/-! ### a text so many times -/
def repS (z : Str) (n : Nat) : Str := ⟨(List.replicate n z.cps.toList).flatten.toArray⟩
def rMulS : R2 := fun x y H Q => ∃ (z : Str) (n : Int), x = .str z ∧ y = .int n ∧ 1 ≤ n ∧ n ≤ 1000 ∧ 1 ≤ z.length ∧ z.length ≤ 1000 ∧ Q (.str (repS z n.toNat)) H
theorem foldl_cps (l : List Nat) : ∀ (m : Nat) (acc : List Nat), (List.replicate m l.toArray).foldl (· ++ ·) acc.toArray = (acc ++ (List.replicate m l).flatten).toArray
  | 0, acc => by simp
  | m + 1, acc => by
    rw [List.replicate_succ, List.foldl_cons, List.append_toArray, foldl_cps l m (acc ++ l), List.replicate_succ, List.flatten_cons, List.append_assoc]
theorem repS_eq (z : Str) (n : Nat) : (⟨(List.replicate n z.cps).foldl (· ++ ·) #[]⟩ : Str) = repS z n := by
  unfold repS
  have h := foldl_cps z.cps.toList n []
  rw [Array.toArray_toList, List.nil_append] at h
  rw [← h]
theorem op_mulS : OpR X (binaryOp .Mult) rMulS := by
  intro pins s σ H x y v u Q I rx ry h
  obtain ⟨z, n, rfl, rfl, h1, h2, h3, h4, q⟩ := h
  obtain ⟨t, rfl⟩ := rx
  obtain ⟨t', rfl⟩ := ry
  have hm : z.length * n.toNat ≤ 1000 * 1000 := Nat.mul_le_mul h4 (by omega)
  have hz : z.length = z.cps.size := rfl
  refine PySem.P.mul_str (by rw [decide_eq_false (by omega), decide_eq_false (by omega)]; rfl) (fun _ _ => ?_) (fun _ _ => ?_) ?_
  · have hn0 : (0 : Int) < n := by omega
    have : (z.length : Int) ≤ (2 ^ 63 - 1) / n := by
      rw [Int.le_ediv_iff_mul_le hn0]
      have e0 : (n.toNat : Int) = n := Int.toNat_of_nonneg (by omega)
      have e : (z.length : Int) * n = ((z.length * n.toNat : Nat) : Int) := by rw [Int.natCast_mul, e0]
      rw [e]
      omega
    omega
  · unfold Builtin.Str.tooLong
    exact decide_eq_false (by have e : (16777216 : Nat) = 2 ^ 24 := by decide
                              simp only [sizeLine]
                              omega)
  · rw [if_neg (by omega)]
    by_cases c : (n == 1 || z.length == 0) = true
    · rw [if_pos c]
      have e : n = 1 := by
        rw [Bool.or_eq_true] at c
        rcases c with c | c
        · exact eq_of_beq c
        · have := eq_of_beq c
          omega
      subst e
      have e2 : repS z (1 : Int).toNat = z := by
        unfold repS
        show (⟨(List.replicate 1 z.cps.toList).flatten.toArray⟩ : Str) = z
        simp
      rw [e2] at q
      exact ⟨.str z, H, I, ⟨t, rfl⟩, q⟩
    · rw [if_neg c, repS_eq]
      refine ⟨?_, .str _, H, I.tok _, ⟨_, rfl⟩, q⟩
      show (repS z n.toNat).cps.size ≤ sizeLine
      unfold repS
      rw [List.size_toArray, List.length_flatten, List.map_replicate, List.sum_replicate_nat, Array.length_toList]
      have e : sizeLine = 16777216 := by decide
      rw [Nat.mul_comm] at hm
      have hm' : n.toNat * z.cps.size ≤ 1000 * 1000 := hm
      omega
end
end RW
set_option Elab.async false
set_option linter.all false
set_option maxRecDepth 100000
set_option maxHeartbeats 2000000
namespace RW
open PySem PySem.Spec PyProof.Rows L2

/-! ### the last to the first -/
def revS (z : Str) : Str := ⟨z.cps.toList.reverse.toArray⟩
section
variable {prog : Program} {w : World} {A : Around} {E : Value → Shared → Prop} {s : Shared}
theorem back_made {x : Str} {t u : Tok} : sliceMade x t none none (some (-1, u)) = .str (revS x) := by
  unfold sliceMade
  have h : ((((some ((-1 : Int), u)).map (·.1)).getD 1 == 1) && (slicePicked x none none (some (-1, u))).length == x.length) = false := rfl
  rw [if_neg (by rw [h]; exact Bool.false_ne_true)]
  have e : slicePicked x none none (some (-1, u)) = (List.range x.length).reverse := by
    unfold slicePicked
    show Builtin.Str.strSliceIndices none none (-1) x.length = _
    unfold Builtin.Str.strSliceIndices
    show sliceRange ((x.length : Int) - 1) (-1) (-1) = _
    rw [PySem.W.krv_sliceRange, PySem.W.krv_range]
  rw [e, List.filterMap_reverse]
  have e2 : (List.range x.length).filterMap (x.cps[·]?) = x.cps.toList := PySem.W.krv_all x.cps
  rw [e2]
  rfl
theorem back_applied {sl : Addr} {n : Nat} {u : Tok} {Q : Int × Int × Nat → Shared → Prop} (hs : s.heap.IsSliceOf sl .none .none (.int (-1) u)) (h : Q ((n : Int) - 1, -1, n) s) :
    wpAny (model prog w) A (Builtin.Slice.sliceApplied (.ref sl) (pure (n : Int))) Q E s := by
  obtain ⟨ob, g1, g2, g3⟩ := id hs
  unfold Builtin.Slice.sliceApplied Builtin.Slice.sliceFields
  refine wpAny_bind (wpAny_bind (wpAny_field g1 g3 (x := .none) rfl (wpAny_bind (wpAny_field g1 g3 (x := .none) rfl (wpAny_bind (wpAny_field g1 g3 (x := .int (-1) u) rfl (wpAny_pure ?_)))))))
  refine wpAny_bind (slicePart_int ?_)
  show wpAny _ _ (if ((-1 : Int) == 0) = true then _ else _) _ _ s
  rw [if_neg (by decide)]
  refine wpAny_bind (slicePart_none (wpAny_bind (slicePart_none (wpAny_bind (wpAny_pure ?_)))))
  show wpAny _ _ (pure ((n : Int) - 1, (-1 : Int), Builtin.Slice.slicePlaces ((n : Int) - 1) (-1) (-1))) _ _ s
  have e : Builtin.Slice.slicePlaces ((n : Int) - 1) (-1) (-1) = n := by
    unfold Builtin.Slice.slicePlaces
    rw [if_neg (by decide), show (- -1 : Int) = 1 by decide, Int.ediv_one]
    split <;> omega
  rw [e]
  exact wpAny_pure h
theorem back_pick (xs : Array Value) : ((List.range xs.size).filterMap fun (m : Nat) => xs[(((xs.size : Int) - 1) + (m : Int) * -1).toNat]?).toArray = xs.toList.reverse.toArray := by
  have e : (List.range xs.size).filterMap (fun (m : Nat) => xs[(((xs.size : Int) - 1) + (m : Int) * -1).toNat]?) = ((List.range xs.size).map fun k => xs.size - 1 - k).filterMap (xs[·]?) := by
    rw [List.filterMap_map]
    have hx : ∀ l : List Nat, (∀ k ∈ l, k < xs.size) → l.filterMap (fun (m : Nat) => xs[(((xs.size : Int) - 1) + (m : Int) * -1).toNat]?) = l.filterMap ((fun x => xs[x]?) ∘ fun k => xs.size - 1 - k) := by
      intro l
      induction l with
      | nil => intro _; rfl
      | cons a l ih =>
        intro hl
        have ha := hl a List.mem_cons_self
        have e1 : (((xs.size : Int) - 1) + (a : Int) * -1).toNat = xs.size - 1 - a := by omega
        rw [List.filterMap_cons, List.filterMap_cons, ih fun k hk => hl k (List.mem_cons_of_mem _ hk)]
        simp only [e1, Function.comp]
    exact hx _ fun k hk => List.mem_range.mp hk
  rw [e, PySem.W.krv_range, List.filterMap_reverse, PySem.W.krv_all]
theorem getItem_tuple_back {t sl : Addr} {items : Array Value} {u : Tok} {Q : Value → Shared → Prop} (ht : IsTup s.heap t items) (hs : s.heap.IsSliceOf sl .none .none (.int (-1) u))
    (h : Q (.ref s.heap.objs.size) { s with heap := s.heap.push { cls := .type "tuple", data := .seq items.toList.reverse.toArray } }) (hz : items.size ≤ sizeLine) : wpAny (model prog w) A (getItem (.ref t) (.ref sl)) Q E s := by
  have hok : sizeOk (.seq items.toList.reverse.toArray) := by
    show items.toList.reverse.toArray.size ≤ sizeLine
    rw [List.size_toArray, List.length_reverse, Array.length_toList]
    exact hz
  obtain ⟨ob, g1, g2, g3⟩ := id hs
  have hT : s.TypeIs (.ref sl) "slice" := ⟨ob, g1, g2⟩
  unfold getItem
  try with_reducible refine wpAny_holding ?_
  first | refine wpAny_bind (wpAny_pure ?_) | skip
  refine wpAny_bind (wpAny_sequenceKey ht.typeIs (by decide) ?_)
  refine wpAny_bind (wpAny_callSpecial?_slot (name := Str.ofString "__getitem__") ht.typeIs PyProof.Rows.slot_tuple_getitem (wpAny_call_entry PyProof.Rows.slot_tuple_getitem ht.typeIs entry_tuple_getitem ?_ (args_tuple_getitem _ _)))
  show wpAny _ _ (Builtin.Tuple.tupleItemsOf (.ref t) >>= _) _ _ s
  refine wpAny_bind (tupleItemsOf_ ht (wpAny_bind (wpAny_typeOf hT ?_)))
  rw [if_pos (by decide)]
  refine wpAny_bind (back_applied hs ?_)
  have hno : ¬ ((((items.size : Int) - 1) == 0 && (-1 : Int) == 1 && items.size == items.size) = true) := by
    rw [show ((-1 : Int) == 1) = false by decide, Bool.and_false, Bool.false_and]
    exact Bool.false_ne_true
  show wpAny _ _ (if ((((items.size : Int) - 1) == 0 && (-1 : Int) == 1 && items.size == items.size) = true) then _ else _) _ _ s
  rw [if_neg hno, back_pick]
  first
    | exact wpAny_bind (m := Builtin.Tuple.tupleExact _) (wpAny_newObj_type (wpAny_pure ⟨_, rfl, wpAny_pure h⟩) hok)
    | exact wpAny_bind (m := Builtin.Tuple.tupleExact _) (wpAny_newObj_type (wpAny_bind (wpAny_pure (wpAny_pure ⟨_, rfl, wpAny_pure h⟩))) hok)
    | exact wpAny_bind (wpAny_bind (m := Builtin.Tuple.tupleExact _) (wpAny_newObj_type (wpAny_pure (wpAny_pure ⟨_, rfl, wpAny_pure h⟩)) hok))
    | exact wpAny_bind (wpAny_bind (m := Builtin.Tuple.tupleExact _) (wpAny_newObj_type (wpAny_pure ⟨_, rfl, wpAny_pure h⟩) hok))
end
section
variable {X : Cx} {e : Expr} {te : TE} {k : Nat} {p1 p2 p3 pos : Pos}
/-- what the slice's parts come to -/
theorem back_parts {pins : List (Addr × Obj)} {σ : L2.St} {H1 : Hp} {s1 : Shared} {Q : Value → Shared → Prop} (I1 : Inv X pins σ H1 s1) {v : Value} (h : ∀ (s4 : Shared) (u : Tok), Inv X pins σ H1 s4 →
      wpAny (model X.prog X.w) X.A (subscriptTail e (.Slice none none (some (.UnaryOp .USub (.Constant (.int 1) k p1) p2)) p3) v (.ref s4.heap.objs.size)) Q X.xe { s4 with heap := s4.heap.push { cls := .type "slice", data := .fields #[.none, .none, .int (-1) u] } }) :
    wpAny (model X.prog X.w) X.A (eval (.Slice none none (some (.UnaryOp .USub (.Constant (.int 1) k p1) p2)) p3) X.env) (fun sl s' => wpAny (model X.prog X.w) X.A (subscriptTail e (.Slice none none (some (.UnaryOp .USub (.Constant (.int 1) k p1) p2)) p3) v sl) Q X.xe s') X.xe s1 := by
  have hst : PO X (some (.UnaryOp .USub (.Constant (.int 1) k p1) p2)) (tPart (tUn (rU fun i => .int (-i)) (tC (.int 1)))) := po_some (pe_un un_neg pe_int)
  refine wpAny_Slice (thn (po_none.run pins s1 σ H1 (fun o G => o = none ∧ G = H1) I1 ⟨rfl, rfl⟩) fun vl s2 ⟨l, G2, I2, pl, el, e2⟩ => ?_)
  subst el e2
  refine thn (po_none.run pins s2 σ G2 (fun o G => o = none ∧ G = G2) I2 ⟨rfl, rfl⟩) fun vu s3 ⟨l2, G3, I3, pu, eu, e3⟩ => ?_
  subst eu e3
  refine thn (hst.run pins s3 σ G3 (fun o G => o = some (-1) ∧ G = G3) I3 ⟨1, rfl, -1, rfl, rfl, rfl⟩) fun vs s4 ⟨o, G4, I4, ps, eo, e4⟩ => ?_
  subst eo e4
  cases pl
  cases pu
  cases ps with
  | int i t => exact h s4 t I4
def tRevS (te : TE) : TE := fun σ H Q => te σ H fun x H1 => ∃ z, x = .str z ∧ z.length ≤ sizeLine ∧ Q (.str (revS z)) H1
theorem pe_revS (he : PE X e te) : PE X (.Subscript e (.Slice none none (some (.UnaryOp .USub (.Constant (.int 1) k p1) p2)) p3) pos) (tRevS te) := by
  refine ⟨fun pins s σ H Q I h => Subscript_ (thn (he.run pins s σ H _ I h) fun v s1 ⟨x, H1, I1, r1, q1⟩ => ?_)⟩
  obtain ⟨z, rfl, hz, q⟩ := q1
  obtain ⟨t, rfl⟩ := r1
  refine back_parts I1 fun s4 u I4 => ?_
  have I5 : Inv X pins σ H1 { s4 with heap := s4.heap.push { cls := .type "slice", data := .fields #[.none, .none, .int (-1) u] } } := I4.kept (t' := s4.toks) fun b ob g => Heap.get?_push_of_some _ g
  refine tail_any (ops := [.ref s4.heap.objs.size, .str z t]) (typeIs_str _ _ _) F.slot_str_getitem.lookup ?_ (by with_unfolding_all rfl)
  refine wpAny_getItem_str_slice (l := none) (u := none) (st := some (-1, u)) (Heap.IsSliceOf.new ..) rfl ?_
  rw [back_made]
  refine ⟨?_, .str (revS z), H1, I5.tok _, ⟨_, rfl⟩, q⟩
  show (revS z).cps.size ≤ sizeLine
  unfold revS
  rw [List.size_toArray, List.length_reverse, Array.length_toList]
  exact hz
def tRevT (K : PySem.W.Frag) (te : TE) : TE := fun σ H Q => te σ H fun x H1 => ∃ a xs, x = .ref a ∧ SqT K H1 a xs ∧ ∀ p, H1 p = none → Q (.ref p) (upd H1 p (.tup xs.reverse))
theorem pe_revT (he : PE X e te) : PE X (.Subscript e (.Slice none none (some (.UnaryOp .USub (.Constant (.int 1) k p1) p2)) p3) pos) (tRevT X.K te) := by
  refine ⟨fun pins s σ H Q I h => Subscript_ (thn (he.run pins s σ H _ I h) fun v s1 ⟨x, H1, I1, r1, q1⟩ => ?_)⟩
  obtain ⟨a, xs, rfl, hx, q⟩ := q1
  cases r1
  refine back_parts I1 fun s4 u I4 => ?_
  have I5 : Inv X pins σ H1 { s4 with heap := s4.heap.push { cls := .type "slice", data := .fields #[.none, .none, .int (-1) u] } } := I4.kept (t' := s4.toks) fun b ob g => Heap.get?_push_of_some _ g
  obtain ⟨its, r, ht, hz⟩ := I5.tuple hx
  have hlen := r.length
  refine tail_any (ops := [.ref a, .ref s4.heap.objs.size]) ht.typeIs PyProof.Rows.slot_tuple_getitem.lookup ?_ (by with_unfolding_all rfl)
  refine getItem_tuple_back ht (Heap.IsSliceOf.new ..) ?_ (by rw [List.size_toArray]; omega)
  refine ⟨.ref _, _, I5.laid (t' := s4.toks) (o := .tup xs.reverse) (fun b ob g => Heap.get?_push_of_some _ g) (Nat.le_refl _) ?_, rfl, q _ (I5.hok.fresh (Nat.le_refl _))⟩
  exact ⟨by rw [List.length_reverse]; exact hz, _, r.reverse, IsTup.new _ _⟩
end
end RW
set_option Elab.async false
set_option linter.all false
set_option maxRecDepth 100000
set_option maxHeartbeats 2000000
namespace RW
open PySem PySem.Spec PyProof.Rows L2

/-! ### defs that are called where no guard is under way -/
/-- as L2's promise of a def, wanted only where no repr is under way -/
structure FnG (P : Program) (w : World) (K : PySem.W.Frag) (mg : Str → Option Value) (base : Heap) (k : Nat) (f : Addr) (fd : FuncData) (ps : List Str) (sp : Sp) : Prop where
  long : ∀ vs H Q E, sp vs H Q E → vs.length = ps.length
  goes : ∀ (A : Around), A.guards = some [] → Room k A → ∀ (outer : List Env) (s : Shared) (H : Hp), Env0 P w K mg base A outer s H → ∀ (args : Args) (us : List Value) (vs : List V), BindsTo s fd args (ps.zip us) → Vals vs us →
    ∀ (Q : VK) (E : XK), sp vs H Q E → codeAny (model P w) A (.call (.ref f) args) (CR CX0 outer P w H s Q E) s
section
variable {P : Program} {w : World} {K : PySem.W.Frag} {mg : Str → Option Value} {base : Heap}
/-- from a def's body, as Fun.ok does, with the guards told -/
theorem okG {x qual : Str} {st : Stmt} {f : Addr} {fd : FuncData} {N ps : List Str} {k : Nat} {sp : Sp} (F : Fun K x qual st f fd) (S : FnScope N ps (defScope st)) (long : ∀ vs H Q E, sp vs H Q E → vs.length = ps.length)
    (hb : ∀ (cdv : Value) (A : Around) (outer : List Env) (s : Shared) (H : Hp) (vs : List V) (Q : VK) (E : XK), A.guards = some [] → Room k (A.deeper (envOfC qual (defScope st) s.heap.objs.size f cdv)) → sp vs H Q E →
      ∃ t, PSs (cxOf CX0 P w K mg base N qual (defScope st) f cdv A outer s H E).nox (defBody st) t ∧ t { nx := fun _ G => Q .non G, rt := Q } (start N vs) H) : FnG P w K mg base (k + 1) f fd ps sp := by
  obtain ⟨oc, od, kV, doc, pm, an, cdv, ct, osl, rfl, lk, hcd⟩ := F.ex
  refine ⟨long, fun A hg hr outer s H e0 args us vs hbi r Q E hsp => ?_⟩
  have KX : K.In s.heap := e0.mod.kin.keeps fun b o e => (e0.bs b o e).1
  have hkind : ∀ y ∈ ps.zip us, (defScope st).names.lookup y.1 = some .local ∨ ((defScope st).names.lookup y.1 = some .cell ∧ ((cellsFrom (s.heap.objs.size + 1) (defScope st).names []).lookup y.1).isSome = true) := by
    rintro ⟨n, v⟩ hy
    rcases S.par n (List.of_mem_zip hy).1 with q | q
    · exact .inl q
    · exact .inr ⟨q, PySem.W.cellsFrom_some _ _ _ (.inl q)⟩
  refine codeAny_call_function hr.depth (KX _ _ lk) rfl S.co S.gen rfl (PySem.W.codeRec_of KX hcd) (hbi _ _ _ _ (wpAny_newFunctionEnv_cells S.kind hkind fun env he s1 x => ?_))
  subst he
  refine ⟨(e0.mod.nolimit.keeps fun b o e => (e0.bs b o e).1).keeps x.toInCall.keep, codeAny_func ?_⟩
  obtain ⟨t, ht, hq⟩ := hb cdv A outer s H vs Q E hg (hr.deeper _) hsp
  refine wpAny_mono (ht.nox.run [] s1 (start N vs) H _ (inv_start S hr.hd e0 (long _ _ _ _ hsp) r x) hq) (fun fl s' hs => ?_) fun e s' hs => hs
  cases fl with
  | ret u =>
    obtain ⟨v, σ2, H2, J, rv, q⟩ := hs
    exact ⟨v, H2, J.os, J.bare, J.base, J.hok, rv, q⟩
  | next =>
    obtain ⟨σ2, H2, J, q⟩ := hs
    exact ⟨V.non, H2, J.os, J.bare, J.base, J.hok, rfl, q⟩
  | brk => exact absurd hs.choose_spec.choose_spec.2 id
  | cont => exact absurd hs.choose_spec.choose_spec.2 id
end
section
variable {X : Cx} {k : Nat} {f : Addr} {fd : FuncData} {ps : List Str} {sp : Sp} {x : Str} {p pos : Pos} {e : Expr} {es : List Expr} {t : TA}
/-- f(e, ..), f such a def -/
theorem pe_callG (F : FnG X.prog X.w X.K X.mg X.base k f fd ps sp) (hG : X.A.guards = some []) (hr : Room k X.A) (hg : Gl X x) (hm : X.mg x = some (.ref f)) (hk : PySem.W.keepIn X.K (.ref f) = true) (hb : Binds X.K fd ps [])
    (ha : PA X (e :: es) t) (hdb : (x == ("__debug__" : Str)) = false := by decide) (hst : starEach (e :: es) X.env = (false, eval e X.env) :: starEach es X.env := by rfl) (hpl : (backTo pos (starEach es X.env)).any (·.1) = false := by rfl) :
    PE X (.Call (.Name x p) (e :: es) [] pos) (tCall sp [] E0 t) := by
  refine ⟨fun pins s σ H Q I h => wpAny_Call_Name_kw (ld_glob I hg hm ?_ hdb)⟩
  refine PySem.W.callWith_K (h₀ := X.base) I.ok.mod.kin hk (thn (ha.run pos pins s σ H _ I h) fun us s1 ⟨vs, H1, I1, r, q⟩ => ⟨I1.kIn, ?_⟩) hst hpl
  have q2 : sp (vs ++ []) H1 Q E0 := q
  rw [List.append_nil] at q2
  have hl : (us ++ ([] : List Value)).length = ps.length := by rw [List.append_nil, ← r.length]; exact F.long _ _ _ _ q2
  have hbi := hb s1 us I1.kIn hl
  rw [List.append_nil] at hbi
  refine wpAny_call (codeAny_mono (F.goes X.A hG hr X.stack s1 H1 I1.env0 ⟨us, []⟩ us vs hbi r Q E0 q2) fun res s' hq => ?_)
  cases res with
  | error er => exact hq.elim
  | ok fl =>
    cases fl with
    | ret u => exact I1.after hq
    | next => exact hq.elim
    | brk => exact hq.elim
    | cont => exact hq.elim
end
end RW
set_option Elab.async false
set_option linter.all false
set_option maxRecDepth 100000
set_option maxHeartbeats 2000000
namespace RW
open PySem PySem.Spec PyProof.Rows L2

/-! ### the law's own call, its guards told -/
theorem law_callG {P : Program} {w : World} {K : PySem.W.Frag} {mg mb : Str → Option Value} {k : Nat} {fa a : Addr} {fd : FuncData} {x : Str} {sp : Sp} {s₁ : Shared} {vs : List Value} {ns : List Int}
    (KX : K.In s₁.heap) (hns : s₁.heap.Ns mainGlobals mg) (hb : s₁.heap.Ns builtinsNs mb) (hbb : ∀ y : Str, y ≠ "__name__" → mb y = bootBuiltins y) (hlim : s₁.heap.NoLimit) (hg : s₁.gens = #[])
    (ha : s₁.heap.get? a = some { cls := .type "list", data := .seq vs.toArray }) (hi : IntsAre vs ns) (hl : ns.length ≤ sizeLine) (hr : Room k callerA)
    (F : ∀ base : Heap, K.In base → base.Ns mainGlobals mg → FnG P w K mg base k fa fd [x] sp) (hbind : ∀ (s : Shared) (u : Value), BindsTo s fd ⟨[u], []⟩ [(x, u)])
    (hsp : ∀ (H : Hp), SqL K H a (ns.map V.int) → sp [.ref a] H (fun v _ => v = .bl true) fun _ _ _ => False) :
    codeAny (model P w) callerA (.call (.ref fa) ⟨[.ref a], []⟩) (fun r s' => r = .ok (.ret (.bool true)) ∧ OldK s₁.heap s'.heap ∧ s'.os = s₁.os ∧ AllBare s'.gens) s₁ := by
  have rv := vals_ints hi
  have lenV := hi.length
  let ob : Obj := { cls := .type "list", data := .seq vs.toArray }
  have pick : ∃ H : Hp, (∀ b u, H b = some u → b = a ∧ u = .frz ob (.lst (ns.map V.int)) ∧ K.lookup a = none) ∧ SqL K H a (ns.map V.int) := by
    cases hk : K.lookup a with
    | some o =>
      have e : some o = some ob := (KX a o hk).symm.trans ha
      cases e
      refine ⟨fun _ => none, ⟨fun b u z => ?_, Or.inr ⟨_, vs.toArray, _, hk, rfl, rfl, rfl, by rw [List.size_toArray, lenV]; exact hl, by simpa using rv⟩⟩⟩
      have z' : (none : Option HO) = some u := z
      cases z'
    | none =>
      refine ⟨fun b => if b = a then some (.frz ob (.lst (ns.map V.int))) else none, ⟨fun b u z => ?_, Or.inl (Or.inr ⟨ob, if_pos rfl⟩)⟩⟩
      by_cases q : b = a
      · have z' := (if_pos q).symm.trans z
        exact ⟨q, (Option.some.inj z').symm, rfl⟩
      · have z' := (if_neg q).symm.trans z
        cases z'
  obtain ⟨H, h1, hS⟩ := pick
  have hok : HOk P w H s₁.heap := fun b u z => by
    obtain ⟨e1, e2, _⟩ := h1 b u z
    subst e1 e2
    exact ⟨ha, by rw [List.length_map]; exact hl, vs, _, rv, ha⟩
  have free : ∀ {b : Addr} {o : Obj}, s₁.heap.get? b = some o → (∀ its n, o.data ≠ .seq its n) → H b = none := fun {b o} e d => by
    cases q : H b with
    | none => rfl
    | some u =>
      have eb := (h1 b u q).1
      subst eb
      rw [ha] at e
      cases e
      exact absurd rfl (d _ _)
  have nsT : ∀ {b : Addr} {m : Str → Option Value}, s₁.heap.Ns b m → (hidT s₁.heap H).Ns b m := fun {b m} ⟨o, es, ep, e, d, r⟩ => ⟨o, es, ep, hidT_get e (free e fun its n q => by rw [d] at q; cases q), d, r⟩
  have KT : K.In (hidT s₁.heap H) := fun b o e => hidT_get (KX b o e) (by
    cases q : H b with
    | none => rfl
    | some u =>
      obtain ⟨e1, _, e3⟩ := h1 b u q
      subst e1
      rw [e3] at e
      cases e)
  have hM : Mod K mg (hidT s₁.heap H) := by
    refine ⟨KT, nsT hns, ⟨mb, nsT hb, hbb⟩, ?_⟩
    obtain ⟨mc, c1, c2⟩ := hlim
    exact ⟨mc, nsT c1, c2⟩
  have e0 : Env0 P w K mg (hidT s₁.heap H) callerA [] s₁ H := by
    refine ⟨rfl, hM, fun b o e => of_hidT e, Nat.le_of_eq (hidT_size _ _), trivial, fun b z => ?_, hok, .of_eq hg⟩
    exact absurd (show b ∈ ([] : List Addr) from z) List.not_mem_nil
  refine codeAny_mono ((F _ KT (nsT hns)).goes callerA rfl hr [] s₁ H e0 ⟨[.ref a], []⟩ [.ref a] [.ref a] (hbind s₁ (.ref a)) (.cons rfl .nil) _ _ (hsp H hS)) fun r s' h => ?_
  cases r with
  | error e => exact h.elim
  | ok fl =>
    cases fl with
    | next => exact h.elim
    | brk => exact h.elim
    | cont => exact h.elim
    | ret u =>
      obtain ⟨v, G, os, bare, un, hok2, r2, q⟩ := h
      have qv : v = .bl true := q
      subst qv
      have eu : u = Value.bool true := r2
      subst eu
      refine ⟨rfl, OldK.of_keep fun b o e => ?_, os, bare⟩
      cases q : H b with
      | none => exact un.keep b o e q (fun z => absurd (show b ∈ ([] : List Addr) from z) List.not_mem_nil) List.not_mem_nil
      | some u =>
        obtain ⟨e1, e2, _⟩ := h1 b u q
        subst e2
        have g1 := (hok b _ q).1
        have g2 := (hok2 b _ (un.frzs b ob _ q)).1
        rw [e] at g1
        rw [g2]
        exact g1.symm
theorem walk_ofG {l : PySem.W.OpenLaw} {n k : Nat} {q : Program} {loose : List Str} {XP : (Str → Option Value) → Heap → Prop} {YP : World → Heap → Prop} {d : DefRec} {K : Params → PySem.W.Frag} {sp : PySem.W.Frag → Sp} {x : Str}
    (hn : l.most = some n) (hn2 : n ≤ sizeLine) (hdf : d.params.defaults = []) (hr : Room k callerA) (hY : ∀ (w : World) (h : Heap), YP w h → (K w.params).In h)
    (F : ∀ (w : World) (mg : Str → Option Value) (fa : Addr) (h : Heap), (K w.params).In h → h.Ns mainGlobals mg → mg d.name = some (.ref fa) →
      ∃ fd : FuncData, (∀ (s : Shared) (u : Value), BindsTo s fd ⟨[u], []⟩ [(x, u)]) ∧ ∀ base : Heap, (K w.params).In base → base.Ns mainGlobals mg → FnG l.prog w (K w.params) mg base k fa fd [x] (sp (K w.params)))
    (hsp : ∀ (K : PySem.W.Frag) (H : Hp) (a : Addr) (ns : List Int), ns.length ≤ n → SqL K H a (ns.map V.int) → sp K [.ref a] H (fun v _ => v = .bl true) fun _ _ _ => False) :
    PySem.W.WalkO q loose XP YP l.row.toRowW d [] (fun f vs => PySem.call f vs) := by
  refine Att.attach_call hn hdf fun w s₀ s₁ mg mb fa o pm cd doc a vs ns G Y ho hd hcd hmg hobj hints hlen hgen => ?_
  obtain ⟨fd, hb, hF⟩ := F w mg fa _ (hY w _ Y) G.T.g hmg
  exact law_callG (hY w _ Y) G.T.g G.T.b G.T.builtins G.T.nolimit hgen hobj hints (Nat.le_trans hlen hn2) hr hF hb fun H hS => hsp _ H a ns hlen hS
end RW
set_option Elab.async false
set_option linter.all false
set_option maxRecDepth 100000
set_option maxHeartbeats 2000000
namespace RW
open PySem PySem.Spec PyProof.Rows L2 SX Evl
open PySem.Builtin.Str (occurrences)

/-! ### texts of signs -/
theorem at_one {w : List Nat} {c k : Nat} : PySem.StrLaws.At (S w) (S [c]) (S w).length k ↔ w[k]? = some c := PySem.StrLaws.subAt_one (S w) c k
theorem idx_le : ∀ {w : List Nat} {i c : Nat}, w[i]? = some c → w.idxOf c ≤ i
  | [], _, _, h => by simp at h
  | a :: l, 0, c, h => by
    have e : a = c := by simpa using h
    subst e
    rw [List.idxOf_cons]
    simp
  | a :: l, i + 1, c, h => by
    have ih := idx_le (w := l) (i := i) (c := c) (by simpa using h)
    rw [List.idxOf_cons]
    cases (a == c) <;> simp <;> omega
theorem idx_S {w : List Nat} {c : Nat} (h : c ∈ w) : ∃ rest, occurrences (S w) (S [c]) 0 (S w).length 1 = w.idxOf c :: rest := by
  rcases PySem.StrLaws.occ_head (S w) (S [c]) 1 (Nat.le_refl _) with ⟨_, hn⟩ | ⟨i, r, e, ha, hn⟩
  · exact absurd (at_one.mpr (get_idx h)) (hn _)
  · refine ⟨r, ?_⟩
    rw [e]
    have h1 := at_one.mp ha
    have h2 : w.idxOf c ≤ i := idx_le h1
    have h3 : ¬ w.idxOf c < i := fun q => hn _ q (at_one.mpr (get_idx h))
    rw [show i = w.idxOf c by omega]
theorem occ_steps (w : List Nat) (c : Nat) : ∀ (n k : Nat) (st : Array Nat × Nat), st.snd ≤ k → k + n = w.length + 1 → st.fst.size ≤ k →
    (forIn (List.range' k n) st (PySem.StrLaws.occBody (S w) (S [c]) (S w).length ((S w).length + 1))).run.fst.toList.length = st.fst.size + (w.drop k).count c
  | 0, k, st, _, hk, _ => by
    rw [List.drop_of_length_le (by omega)]
    simp
  | n + 1, k, st, h1, hk, hz => by
    rw [List.range'_succ, List.forIn_cons]
    have e1 : (S [c]).length = 1 := rfl
    have e2 : (S w).length = w.length := S_len w
    by_cases hc : w[k]? = some c
    · obtain ⟨hlt, hv⟩ := List.getElem?_eq_some_iff.mp hc
      have ha := at_one.mpr hc
      have hb : PySem.StrLaws.occBody (S w) (S [c]) (S w).length ((S w).length + 1) k st = pure (ForInStep.yield (st.fst.push k, k + 1)) := by
        unfold PySem.StrLaws.occBody
        rw [if_pos ⟨⟨⟨by omega, h1⟩, ha.1⟩, ha.2⟩]
        rfl
      rw [hb]
      have ih := occ_steps w c n (k + 1) (st.fst.push k, k + 1) (Nat.le_refl _) (by omega) (by rw [Array.size_push]; omega)
      rw [List.drop_eq_getElem_cons hlt, hv, List.count_cons_self]
      rw [Array.size_push] at ih
      show (forIn (List.range' (k + 1) n) (st.fst.push k, k + 1) (PySem.StrLaws.occBody (S w) (S [c]) (S w).length ((S w).length + 1))).run.fst.toList.length = _
      rw [ih]
      omega
    · have hb : PySem.StrLaws.occBody (S w) (S [c]) (S w).length ((S w).length + 1) k st = pure (ForInStep.yield (st.fst, st.snd)) := by
        unfold PySem.StrLaws.occBody
        rw [if_neg (fun q => hc (at_one.mp ⟨q.1.2, q.2⟩))]
      rw [hb]
      have ih := occ_steps w c n (k + 1) (st.fst, st.snd) (by show st.snd ≤ k + 1; omega) (by omega) (by show st.fst.size ≤ k + 1; omega)
      show (forIn (List.range' (k + 1) n) (st.fst, st.snd) (PySem.StrLaws.occBody (S w) (S [c]) (S w).length ((S w).length + 1))).run.fst.toList.length = _
      rw [ih]
      by_cases hlt : k < w.length
      · rw [List.drop_eq_getElem_cons hlt, List.count_cons_of_ne]
        intro e
        exact hc (by rw [List.getElem?_eq_getElem hlt]; exact congrArg some (by simpa using e))
      · rw [List.drop_of_length_le (by omega), List.drop_of_length_le (by omega)]
theorem cnt_S (w : List Nat) (c : Nat) : Txt.count (S w) (S [c]) = ((w.count c : Nat) : Int) := by
  unfold Txt.count
  rw [PySem.StrLaws.occ_eq]
  have h := occ_steps w c (w.length + 1) 0 (#[], 0) (Nat.le_refl _) (by omega) (Nat.zero_le _)
  have e2 : (S w).length = w.length := S_len w
  rw [e2] at h ⊢
  rw [Nat.sub_zero, h, List.drop_zero]
  congr 1
  exact Nat.zero_add _
theorem joinL_nil : ∀ ws : List (List Nat), TL.joinL [] ws = ws.flatten
  | [] => rfl
  | [p] => by simp [TL.joinL]
  | p :: q :: r => by
    have ih := joinL_nil (q :: r)
    show p ++ ([] ++ TL.joinL [] (q :: r)) = _
    rw [ih, List.nil_append, List.flatten_cons, List.flatten_cons, List.flatten_cons]
theorem join_nil (ws : List (List Nat)) : Txt.join (S []) (ws.map S) = S ws.flatten := by rw [join_S, joinL_nil]
theorem cut_to (w : List Nat) (k : Nat) : cutS (S w) none (some (k : Int)) = S (w.take k) := by
  unfold cutS
  rw [HT.sIx_none, HT.sIx_nat, S_len]
  show (⟨((w.drop 0).take (min k w.length - 0)).toArray⟩ : Str) = _
  rw [List.drop_zero, Nat.sub_zero]
  by_cases h : k ≤ w.length
  · rw [Nat.min_eq_left h]
  · rw [Nat.min_eq_right (by omega), List.take_of_length_le (Nat.le_refl _), List.take_of_length_le (by omega)]
theorem cut_from (w : List Nat) (k : Nat) : cutS (S w) (some (k : Int)) none = S (w.drop k) := by
  unfold cutS
  rw [HT.sIx_none, HT.sIx_nat, S_len]
  show (⟨((w.drop (min k w.length)).take (w.length - min k w.length)).toArray⟩ : Str) = _
  by_cases h : k ≤ w.length
  · rw [Nat.min_eq_left h, List.take_of_length_le (by rw [List.length_drop]; omega)]
  · rw [Nat.min_eq_right (by omega), List.drop_of_length_le (Nat.le_refl _), List.drop_of_length_le (by omega), List.take_nil]
end RW
set_option Elab.async false
set_option linter.all false
set_option maxRecDepth 100000
set_option maxHeartbeats 2000000
namespace RW
open PySem PySem.Spec PyProof.Rows L2
/-! ### the text -/
def topS (i : Nat) : Stmt := PySem.Challenge.pw_ringwords_k49_whole_surfaces_told_otherw.main.body.getD i (.Pass ⟨0, 0, 0, 0⟩)
abbrev sBackOf : Stmt := topS 2
theorem scBackOf : FnScope ["letter"] ["letter"] (defScope sBackOf) := ⟨rfl, rfl, rfl, by decide +kernel, rfl, by decide +kernel, by decide +kernel⟩
abbrev sBack : Stmt := topS 3
theorem scBack : FnScope ["word", "sign"] ["word"] (defScope sBack) := ⟨rfl, rfl, rfl, by decide +kernel, rfl, by decide +kernel, by decide +kernel⟩
abbrev sMoved : Stmt := topS 5
theorem scMoved : FnScope ["ways", "strand", "step", "way", "place"] ["ways", "strand", "step"] (defScope sMoved) := ⟨rfl, rfl, rfl, by decide +kernel, rfl, by decide +kernel, by decide +kernel⟩
abbrev sLetterAt : Stmt := topS 6
theorem scLetterAt : FnScope ["ways", "strand", "step", "way", "place"] ["ways", "strand", "step"] (defScope sLetterAt) := ⟨rfl, rfl, rfl, by decide +kernel, rfl, by decide +kernel, by decide +kernel⟩
abbrev sIsStrand : Stmt := topS 7
theorem scIsStrand : FnScope ["ways", "thing", "one"] ["ways", "thing"] (defScope sIsStrand) := ⟨rfl, rfl, rfl, by decide +kernel, rfl, by decide +kernel, by decide +kernel⟩
abbrev sRoomOf : Stmt := topS 8
theorem scRoomOf : FnScope ["ways", "one", "other"] ["ways", "one", "other"] (defScope sRoomOf) := ⟨rfl, rfl, rfl, by decide +kernel, rfl, by decide +kernel, by decide +kernel⟩
abbrev sComesFirst : Stmt := topS 10
theorem scComesFirst : FnScope ["surface", "begin", "one", "other", "at", "row"] ["surface", "begin", "one", "other"] (defScope sComesFirst) := ⟨rfl, rfl, rfl, by decide +kernel, rfl, by decide +kernel, by decide +kernel⟩
abbrev sIsBeside : Stmt := topS 11
theorem scIsBeside : FnScope ["surface", "ways", "one", "other", "first", "last", "begin", "end"] ["surface", "ways", "one", "other"] (defScope sIsBeside) := ⟨rfl, rfl, rfl, by decide +kernel, rfl, by decide +kernel, by decide +kernel⟩
abbrev sIsAlong : Stmt := topS 12
theorem scIsAlong : FnScope ["surface", "ways", "one", "other", "many", "here", "there", "ahead", "from_one", "from_other", "k"] ["surface", "ways", "one", "other", "many"] (defScope sIsAlong) := ⟨rfl, rfl, rfl, by decide +kernel, rfl, by decide +kernel, by decide +kernel⟩
abbrev sIsAgainst : Stmt := topS 13
theorem scIsAgainst : FnScope ["surface", "ways", "one", "other", "many", "here", "there", "ahead", "from_one", "from_other", "k"] ["surface", "ways", "one", "other", "many"] (defScope sIsAgainst) := ⟨rfl, rfl, rfl, by decide +kernel, rfl, by decide +kernel, by decide +kernel⟩
abbrev sIsLong : Stmt := topS 14
theorem scIsLong : FnScope ["thing"] ["thing"] (defScope sIsLong) := ⟨rfl, rfl, rfl, by decide +kernel, rfl, by decide +kernel, by decide +kernel⟩
abbrev sIsLink : Stmt := topS 15
theorem scIsLink : FnScope ["surface", "ways", "thing"] ["surface", "ways", "thing"] (defScope sIsLink) := ⟨rfl, rfl, rfl, by decide +kernel, rfl, by decide +kernel, by decide +kernel⟩
abbrev sRunAlong : Stmt := topS 17
theorem scRunAlong : FnScope ["ways", "one", "other", "many"] ["ways", "one", "other"] (defScope sRunAlong) := ⟨rfl, rfl, rfl, by decide +kernel, rfl, by decide +kernel, by decide +kernel⟩
abbrev sRunAgainst : Stmt := topS 18
theorem scRunAgainst : FnScope ["ways", "one", "other", "many"] ["ways", "one", "other"] (defScope sRunAgainst) := ⟨rfl, rfl, rfl, by decide +kernel, rfl, by decide +kernel, by decide +kernel⟩
abbrev sLinksOf : Stmt := topS 19
theorem scLinksOf : FnScope ["surface", "ways", "one", "other", "along", "against", "link"] ["surface", "ways", "one", "other"] (defScope sLinksOf) := ⟨rfl, rfl, rfl, by decide +kernel, rfl, by decide +kernel, by decide +kernel⟩
abbrev sLinks : Stmt := topS 20
theorem scLinks : FnScope ["surface", "ways", "i", "j", "found", "place", "spot"] ["surface", "ways", "i", "j"] (defScope sLinks) := ⟨rfl, rfl, rfl, by decide +kernel, rfl, by decide +kernel, by decide +kernel⟩
abbrev sSums : Stmt := topS 22
theorem scSums : FnScope ["many", "word", "sign"] ["many", "word"] (defScope sSums) := ⟨rfl, rfl, rfl, by decide +kernel, rfl, by decide +kernel, by decide +kernel⟩
abbrev sSideOf : Stmt := topS 25
theorem scSideOf : FnScope ["surface", "one", "other", "at", "row", "far", "small", "big"] ["surface", "one", "other"] (defScope sSideOf) := ⟨rfl, rfl, rfl, by decide +kernel, rfl, by decide +kernel, by decide +kernel⟩
abbrev sBalance : Stmt := topS 26
theorem scBalance : FnScope ["surface", "one", "other", "many", "firsts", "seconds", "found", "x", "y", "area"] ["surface", "one", "other"] (defScope sBalance) := ⟨rfl, rfl, rfl, by decide +kernel, rfl, by decide +kernel, by decide +kernel⟩
abbrev sTape : Stmt := topS 28
theorem scTape : FnScope ["_law_script"] ["_law_script"] (defScope sTape) := ⟨rfl, rfl, rfl, by decide +kernel, rfl, by decide +kernel, by decide +kernel⟩
abbrev sDraw : Stmt := topS 29
theorem scDraw : FnScope ["_law_tape_here", "_law_many", "_law_spot", "_law_cell", "_law_mixed", "_law_found"] ["_law_tape_here", "_law_many"] (defScope sDraw) := ⟨rfl, rfl, rfl, by decide +kernel, rfl, by decide +kernel, by decide +kernel⟩
abbrev sLBack : Stmt := topS 30
theorem scLBack : FnScope ["_law_word", "_law_sign"] ["_law_word"] (defScope sLBack) := ⟨rfl, rfl, rfl, by decide +kernel, rfl, by decide +kernel, by decide +kernel⟩
abbrev sAnyRow : Stmt := topS 31
theorem scAnyRow : FnScope ["_law_tape_here", "_law_most", "_law_row", "_law_k", "_law_sign"] ["_law_tape_here", "_law_most"] (defScope sAnyRow) := ⟨rfl, rfl, rfl, by decide +kernel, rfl, by decide +kernel, by decide +kernel⟩
abbrev sInner : Stmt := topS 32
theorem scInner : FnScope ["_law_word", "_law_left", "_law_sign"] ["_law_word"] (defScope sInner) := ⟨rfl, rfl, rfl, by decide +kernel, rfl, by decide +kernel, by decide +kernel⟩
abbrev sRooted : Stmt := topS 33
theorem scRooted : FnScope ["_law_word", "_law_size"] ["_law_word"] (defScope sRooted) := ⟨rfl, rfl, rfl, by decide +kernel, rfl, by decide +kernel, by decide +kernel⟩
abbrev sAnyWay : Stmt := topS 34
theorem scAnyWay : FnScope ["_law_tape_here", "_law_many", "_law_long", "_law_signs", "_law_word", "_law_at", "_law_k"] ["_law_tape_here", "_law_many", "_law_long"] (defScope sAnyWay) := ⟨rfl, rfl, rfl, by decide +kernel, rfl, by decide +kernel, by decide +kernel⟩
abbrev sSomeWays : Stmt := topS 35
theorem scSomeWays : FnScope ["_law_tape_here", "_law_many", "_law_most", "_law_long", "_law_ways", "_law_k", "_law_word", "_law_at"] ["_law_tape_here", "_law_many", "_law_most", "_law_long"] (defScope sSomeWays) := ⟨rfl, rfl, rfl, by decide +kernel, rfl, by decide +kernel, by decide +kernel⟩
abbrev sOtherNames : Stmt := topS 36
theorem scOtherNames : FnScope ["_law_tape_here", "_law_many", "_law_left", "_law_names", "_law_sign", "_law_name"] ["_law_tape_here", "_law_many"] (defScope sOtherNames) := ⟨rfl, rfl, rfl, by decide +kernel, rfl, by decide +kernel, by decide +kernel⟩
abbrev sRenamedWord : Stmt := topS 37
theorem scRenamedWord : FnScope ["_law_names", "_law_word", "_law_sign"] ["_law_names", "_law_word"] (defScope sRenamedWord) := ⟨rfl, rfl, rfl, by decide +kernel, rfl, by decide +kernel, by decide +kernel⟩
abbrev sAskedSo : Stmt := topS 38
theorem scAskedSo : FnScope ["_law_surface", "_law_ways", "_law_found", "_law_i", "_law_j"] ["_law_surface", "_law_ways"] (defScope sAskedSo) := ⟨rfl, rfl, rfl, by decide +kernel, rfl, by decide +kernel, by decide +kernel⟩
abbrev sRight : Stmt := topS 39
theorem scRight : FnScope ["_law_tape_here", "_law_surface", "_law_ways", "_law_due", "_law_at", "_law_names", "_law_renamed", "_law_weight", "_law_way"] ["_law_tape_here", "_law_surface", "_law_ways"] (defScope sRight) := ⟨rfl, rfl, rfl, by decide +kernel, rfl, by decide +kernel, by decide +kernel⟩
abbrev sTurnedRight : Stmt := topS 40
theorem scTurnedRight : FnScope ["_law_tape_here", "_law_surface", "_law_ways", "_law_at", "_law_word", "_law_turned", "_law_due", "_law_some"] ["_law_tape_here", "_law_surface", "_law_ways"] (defScope sTurnedRight) := ⟨rfl, rfl, rfl, by decide +kernel, rfl, by decide +kernel, by decide +kernel⟩
abbrev sLaw : Stmt := topS 41
theorem scLaw : FnScope ["_law_script", "_law_tape_here", "_law_k", "_law_surface", "_law_ways"] ["_law_script"] (defScope sLaw) := ⟨rfl, rfl, rfl, by decide +kernel, rfl, by decide +kernel, by decide +kernel⟩
end RW
set_option Elab.async false
set_option linter.all false
set_option maxRecDepth 100000
set_option maxHeartbeats 2000000
namespace RW
open PySem PySem.Spec PyProof.Rows L2 SX Evl

/-- a word as a value -/
abbrev vS (w : Wd) : V := .str (S w)
theorem small_S : (Str.ofString "abcdef") = S [97, 98, 99, 100, 101, 102] := by decide +kernel
theorem big_S : (Str.ofString "ABCDEF") = S [65, 66, 67, 68, 69, 70] := by decide +kernel
theorem nil_S : (Str.ofString "") = S [] := by decide +kernel
theorem up_S {c : Nat} (h : isLK 6 c) (h2 : c ∈ [97, 98, 99, 100, 101, 102]) : Txt.upper (S [c]) = S [bk c] := by
  simp only [List.mem_cons, List.not_mem_nil, or_false] at h2
  rcases h2 with rfl | rfl | rfl | rfl | rfl | rfl <;> decide +kernel
theorem lo_S {c : Nat} (h : isLK 6 c) (h2 : ¬ c ∈ [97, 98, 99, 100, 101, 102]) : Txt.lower (S [c]) = S [bk c] := by
  simp only [List.mem_cons, List.not_mem_nil, or_false] at h2
  have h3 : c = 65 ∨ c = 66 ∨ c = 67 ∨ c = 68 ∨ c = 69 ∨ c = 70 := by
    unfold isLK at h
    omega
  rcases h3 with rfl | rfl | rfl | rfl | rfl | rfl <;> decide +kernel
theorem isLK_mono {k m c : Nat} (h : isLK k c) (hk : k ≤ m) : isLK m c := by
  unfold isLK at *
  omega

/-! ### back_of -/
def spBackOf : Sp := fun vs H Q _ => ∃ c, vs = [vS [c]] ∧ isLK 6 c ∧ RetV (vS [bk c]) H Q
section
variable {P : Program} {w : World} {K : PySem.W.Frag} {mg : Str → Option Value} {base : Heap}
theorem ok_backOf {f : Addr} {fd : FuncData} {k : Nat} {tk : Tok} (F : Fun K "back_of" "back_of" sBackOf f fd) (gS : mg "SMALL_letters" = some (.str "abcdef" tk)) : FnOk P w K mg base CX0 (k + 1) f fd ["letter"] spBackOf := by
  refine F.ok scBackOf (fun vs H Q E h => ?_) (fun cdv A outer s H vs Q E hr h => ?_)
  · obtain ⟨c, rfl, _⟩ := h
    rfl
  · obtain ⟨c, rfl, hc, q⟩ := h
    refine ⟨_, pss_one (ps_ret (pe_ifExp (pt_cmpR op_in_sign (pv 0) (pe_glob rfl gS (v := .str "abcdef") ⟨_, rfl⟩) rfl) (pe_upper (pv 0)) (pe_lower (pv 0)))), ?_⟩
    refine ⟨_, rfl, c, _, rfl, rfl, _, rfl, ?_⟩
    have e : (Str.ofString "abcdef").cps.toList = [97, 98, 99, 100, 101, 102] := by rw [small_S]
    by_cases h2 : c ∈ [97, 98, 99, 100, 101, 102]
    · rw [show decide (c ∈ (Str.ofString "abcdef").cps.toList) = true by rw [e]; exact decide_eq_true h2]
      refine iteT ⟨_, rfl, ⟨_, rfl⟩, S [c], rfl, rfl, by show 1 ≤ 5592405; decide, ?_⟩
      rw [up_S hc h2]
      exact q H (Ex.refl H)
    · rw [show decide (c ∈ (Str.ofString "abcdef").cps.toList) = false by rw [e]; exact decide_eq_false h2]
      refine iteF ⟨_, rfl, ⟨_, rfl⟩, S [c], rfl, rfl, by show 1 ≤ 5592405; decide, ?_⟩
      rw [lo_S hc h2]
      exact q H (Ex.refl H)
end
end RW
set_option Elab.async false
set_option linter.all false
set_option maxRecDepth 100000
set_option maxHeartbeats 2000000
namespace RW
open PySem PySem.Spec PyProof.Rows L2 SX Evl

section
variable {K : PySem.W.Frag} {σ : L2.St} {H H' : Hp} {ta tb te tl : TE} {t : TT} {x y z v : V}

/-! ### comprehensions, told by what each turn gives -/
/-- the list at Dl holds the first i of ys -/
def Cm (H : Hp) (ys : List V) (Dl : Addr) (i : Nat) (H' : Hp) : Prop := H Dl = none ∧ Ex H H' ∧ H' Dl = some (.lst (ys.take i))
theorem cm_turn {ys : List V} {Dl : Addr} {i : Nat} {σ2 : L2.St} {y : V} (p : Cm H ys Dl i H') (hy : ys[i]? = some y) (hz : ys.length ≤ 50000) (he : Ev te σ2 H y) :
    tYes σ2 H' fun b H3 => if b = true then te σ2 H3 fun y H4 => ∃ acc, H4 Dl = some (.lst acc) ∧ acc.length < sizeLine ∧ Cm H ys Dl (i + 1) (upd H4 Dl (.lst (acc ++ [y]))) else Cm H ys Dl (i + 1) H3 := by
  obtain ⟨p1, p2, p3⟩ := p
  show te σ2 H' fun y H4 => ∃ acc, H4 Dl = some (.lst acc) ∧ acc.length < sizeLine ∧ Cm H ys Dl (i + 1) (upd H4 Dl (.lst (acc ++ [y])))
  have hi := (List.getElem?_eq_some_iff.mp hy).1
  refine he H' p2 _ fun H4 e4 => ⟨ys.take i, e4 Dl _ p3, sz_lt (by rw [List.length_take]; omega), p1, Ex.mut (p2.trans e4) p1, ?_⟩
  rw [upd_same, List.take_add_one, hy]
  rfl
/-- .. of a text, sign by sign -/
theorem el_mapS {u : Wd} {j : Nat} {vs : List Nat} (ys : List V) (h : Ev tl σ H (vS u)) (hl : ys.length = u.length) (hz : u.length ≤ 40000) (hw : ∀ x, wipe ((wipe σ vs).set j (some x)) vs = wipe σ vs)
    (he : ∀ (i c : Nat) (y : V) H1, Ex H H1 → u[i]? = some c → ys[i]? = some y → Ev te ((wipe σ vs).set j (some (vS [c]))) H1 y) : EvL (tLc (iStr tl) (gName j) tYes te vs) σ H ys := fun H0 e Q q =>
  h H0 e _ fun H1 e1 => ⟨S u, rfl, fun Dl hD =>
    lc_it walk_str (Cm H1 ys Dl) ⟨hD, Ex.new hD, by rw [upd_same]; rfl⟩ (fun _ _ _ _ => trivial) (fun i x G G' hi p hx => by
      obtain ⟨rfl, c, hc, rfl⟩ := hx
      have hc' : u[i]? = some c := by
        have : (S u).cps[i]? = u[i]? := List.getElem?_toArray
        rw [← this]
        exact hc
      have hi' : i < ys.length := by
        rw [hl]
        exact (List.getElem?_eq_some_iff.mp hc').1
      exact ⟨hw _, cm_turn p (List.getElem?_eq_getElem hi') (by omega) (he i c _ H1 (e.trans e1) hc' (List.getElem?_eq_getElem hi'))⟩)
      fun G p => q Dl G (fresh_back e1 p.1) (e1.trans p.2.1) (by
        have h3 := p.2.2
        rw [List.take_of_length_le (by rw [hl]; show u.length ≤ u.toArray.size; rw [List.size_toArray]; exact Nat.le_refl _)] at h3
        exact h3)⟩
/-- .. of a tuple -/
theorem el_mapT {a : Addr} {xs : List V} {j : Nat} {vs : List Nat} (ys : List V) (h : Ev tl σ H (.ref a)) (hx : SqT K H a xs) (hl : ys.length = xs.length) (hz : xs.length ≤ 40000) (hw : ∀ x, wipe ((wipe σ vs).set j (some x)) vs = wipe σ vs)
    (he : ∀ (i : Nat) (x y : V) H1, Ex H H1 → xs[i]? = some x → ys[i]? = some y → Ev te ((wipe σ vs).set j (some x)) H1 y) : EvL (tLc (iTup K tl) (gName j) tYes te vs) σ H ys := fun H0 e Q q =>
  h H0 e _ fun H1 e1 => ⟨a, rfl, ⟨xs, ex_t (e.trans e1) hx⟩, fun Dl hD =>
    lc_tup (xs := xs) (Cm H1 ys Dl) ⟨hD, Ex.new hD, by rw [upd_same]; rfl⟩ (fun i G _ p => ex_t ((e.trans e1).trans p.2.1) hx) (fun i x G hi p => by
      have hi' : i < ys.length := by
        rw [hl]
        exact (List.getElem?_eq_some_iff.mp hi).1
      exact ⟨hw x, cm_turn p (List.getElem?_eq_getElem hi') (by omega) (he i x _ H1 (e.trans e1) hi (List.getElem?_eq_getElem hi'))⟩)
      fun G p => q Dl G (fresh_back e1 p.1) (e1.trans p.2.1) (by
        have h3 := p.2.2
        rw [List.take_of_length_le (by omega)] at h3
        exact h3)⟩
/-- .. of a list -/
theorem el_mapL {a : Addr} {xs : List V} {j : Nat} {vs : List Nat} (ys : List V) (h : Ev tl σ H (.ref a)) (hx : SqL K H a xs) (hl : ys.length = xs.length) (hz : xs.length ≤ 40000) (hw : ∀ x, wipe ((wipe σ vs).set j (some x)) vs = wipe σ vs)
    (he : ∀ (i : Nat) (x y : V) H1, Ex H H1 → xs[i]? = some x → ys[i]? = some y → Ev te ((wipe σ vs).set j (some x)) H1 y) : EvL (tLc (iList K tl) (gName j) tYes te vs) σ H ys := fun H0 e Q q =>
  h H0 e _ fun H1 e1 => ⟨a, rfl, ⟨xs, ex_l (e.trans e1) hx⟩, fun Dl hD =>
    lc_list (xs := xs) (Cm H1 ys Dl) ⟨hD, Ex.new hD, by rw [upd_same]; rfl⟩ (fun i G _ p => ex_l ((e.trans e1).trans p.2.1) hx) (fun i x G hi p => by
      have hi' : i < ys.length := by
        rw [hl]
        exact (List.getElem?_eq_some_iff.mp hi).1
      exact ⟨hw x, cm_turn p (List.getElem?_eq_getElem hi') (by omega) (he i x _ H1 (e.trans e1) hi (List.getElem?_eq_getElem hi'))⟩)
      fun G p => q Dl G (fresh_back e1 p.1) (e1.trans p.2.1) (by
        have h3 := p.2.2
        rw [List.take_of_length_le (by omega)] at h3
        exact h3)⟩
/-- .. of range(n) -/
theorem el_mapR {n : Nat} {j : Nat} {vs : List Nat} {ta : TA} (ys : List V) (h : EvA ta σ H [.int (n : Int)]) (hl : ys.length = n) (hz : n ≤ 40000) (hw : ∀ x, wipe ((wipe σ vs).set j (some x)) vs = wipe σ vs)
    (he : ∀ (i : Nat) (y : V) H1, Ex H H1 → i < n → ys[i]? = some y → Ev te ((wipe σ vs).set j (some (.int (i : Int)))) H1 y) : EvL (tLc (iRng1 ta) (gName j) tYes te vs) σ H ys := fun H0 e Q q =>
  h H0 e _ fun H1 e1 => ⟨(n : Int), rfl, by omega, by omega, fun Dl hD => by
    have hn : (n : Int).toNat = n := Int.toNat_natCast n
    rw [hn]
    refine lc_range (lo := 0) (n := n) (Cm H1 ys Dl) ⟨hD, Ex.new hD, by rw [upd_same]; rfl⟩ (fun i G hi p => ?_) fun G p => q Dl G (fresh_back e1 p.1) (e1.trans p.2.1) ?_
    · have hi' : i < ys.length := by omega
      show wipe ((wipe σ vs).set j (some (.int ((0 : Int) + (i : Int))))) vs = wipe σ vs ∧ tYes ((wipe σ vs).set j (some (.int ((0 : Int) + (i : Int))))) G _
      rw [Int.zero_add]
      exact ⟨hw _, cm_turn p (List.getElem?_eq_getElem hi') (by omega) (he i _ H1 (e.trans e1) hi (List.getElem?_eq_getElem hi'))⟩
    · have h3 := p.2.2
      rw [List.take_of_length_le (by omega)] at h3
      exact h3⟩
/-- .. of range(lo, n) -/
theorem el_mapR2 {lo n : Nat} {j : Nat} {vs : List Nat} {ta : TA} (ys : List V) (h : EvA ta σ H [.int (lo : Int), .int (n : Int)]) (hl : ys.length = n - lo) (hz : n ≤ 40000 ∧ lo ≤ 40000) (hw : ∀ x, wipe ((wipe σ vs).set j (some x)) vs = wipe σ vs)
    (he : ∀ (i : Nat) (y : V) H1, Ex H H1 → lo + i < n → ys[i]? = some y → Ev te ((wipe σ vs).set j (some (.int ((lo + i : Nat) : Int)))) H1 y) : EvL (tLc (iRng2 ta) (gName j) tYes te vs) σ H ys := fun H0 e Q q =>
  h H0 e _ fun H1 e1 => ⟨(lo : Int), (n : Int), rfl, ⟨by omega, by omega, by omega, by omega⟩, fun Dl hD => by
    have hn : ((n : Int) - (lo : Int)).toNat = n - lo := by omega
    rw [hn]
    refine lc_range (lo := (lo : Int)) (n := n - lo) (Cm H1 ys Dl) ⟨hD, Ex.new hD, by rw [upd_same]; rfl⟩ (fun i G hi p => ?_) fun G p => q Dl G (fresh_back e1 p.1) (e1.trans p.2.1) ?_
    · have hi' : i < ys.length := by omega
      show wipe ((wipe σ vs).set j (some (.int ((lo : Int) + (i : Int))))) vs = wipe σ vs ∧ tYes ((wipe σ vs).set j (some (.int ((lo : Int) + (i : Int))))) G _
      rw [← Int.natCast_add]
      exact ⟨hw _, cm_turn p (List.getElem?_eq_getElem hi') (by omega) (he i _ H1 (e.trans e1) (by omega) (List.getElem?_eq_getElem hi'))⟩
    · have h3 := p.2.2
      rw [List.take_of_length_le (by omega)] at h3
      exact h3⟩
/-! ### texts joined -/
def rJoin (K : PySem.W.Frag) : V → List V → Hp → VK → Prop := fun x xs H Q => ∃ a p, ∃ ys : List Str, x = .str a ∧ xs = [.ref p] ∧ (SqL K H p (ys.map V.str) ∨ SqT K H p (ys.map V.str)) ∧ (ys.map (·.length)).sum + ys.length * a.length ≤ 16777216 ∧ Q (.str (Txt.join a ys)) H
theorem map_vS (ws : List Wd) : ws.map vS = (ws.map S).map V.str := by rw [List.map_map]; rfl
theorem ev_joinL {ws : List Wd} {z : Str} (hz : z = S []) (h : EvL te σ H (ws.map vS)) (hb : ws.flatten.length ≤ 100000) : Ev (tM1 (rJoin K) (tC (.str z)) te) σ H (vS ws.flatten) := fun H0 e Q q => by
  subst hz
  refine ⟨⟨_, rfl⟩, h H0 e _ fun p H1 hp e1 hl => ⟨S [], p, ws.map S, rfl, rfl, .inl (sq_of (by rw [hl, map_vS])), ?_, ?_⟩⟩
  · rw [lens]
    have e2 : (S []).length = 0 := rfl
    rw [e2, Nat.mul_zero, Nat.add_zero]
    refine Nat.le_trans (Nat.le_of_eq ?_) (Nat.le_trans hb (by decide))
    rw [List.length_flatten]
  · rw [join_nil]
    exact q H1 e1
end
end RW
set_option Elab.async false
set_option linter.all false
set_option maxRecDepth 100000
set_option maxHeartbeats 4000000
namespace RW
open PySem PySem.Spec PyProof.Rows L2 SX Evl

/-! ### back -/
def bw (u : Wd) : Wd := u.reverse.map bk
def spBack : Sp := fun vs H Q _ => ∃ u : Wd, vs = [vS u] ∧ (∀ c ∈ u, isLK 6 c) ∧ u.length ≤ 1000 ∧ RetV (vS (bw u)) H Q
theorem map_one (u : Wd) : (u.map fun c => vS [c]) = (u.map fun c => [c]).map vS := by rw [List.map_map]; rfl
theorem flat_one : ∀ u : Wd, (u.map fun c => [c]).flatten = u
  | [] => rfl
  | c :: u => by
    rw [List.map_cons, List.flatten_cons, flat_one u]
    rfl
/-- a call whose promise is a value -/
theorem spBack_V {H : Hp} {u : Wd} (hu : ∀ c ∈ u, isLK 6 c) (hl : u.length ≤ 1000) : SpV spBack [vS u] H (vS (bw u)) := fun H1 _ Q q E => ⟨u, rfl, hu, hl, q⟩
theorem spBackOf_V {H : Hp} {c : Nat} (h : isLK 6 c) : SpV spBackOf [vS [c]] H (vS [bk c]) := fun H1 _ Q q E => ⟨c, rfl, h, q⟩
section
variable {P : Program} {w : World} {K : PySem.W.Frag} {mg : Str → Option Value} {base : Heap}
theorem ok_back {f fB : Addr} {fd fdB : FuncData} {k : Nat} (F : Fun K "back" "back" sBack f fd) (FB : Fun K "back_of" "back_of" sBackOf fB fdB) (G : FnOk P w K mg base CX0 (k + 1) fB fdB ["letter"] spBackOf) (b : Binds K fdB ["letter"] [])
    (g : mg "back_of" = some (.ref fB)) : FnOk P w K mg base CX0 (k + 2) f fd ["word"] spBack := by
  refine F.ok scBack (fun vs H Q E h => ?_) (fun cdv A outer s H vs Q E hr h => ?_)
  · obtain ⟨u, rfl, _⟩ := h
    rfl
  · obtain ⟨u, rfl, hu, hl, q⟩ := h
    refine ⟨_, pss_one (ps_ret (pe_join pe_str (pe_lc (own := [("sign", 1)]) (g := gName 1) rfl scBack.nd (pi_str (pe_revS (pv 0))) (blkOk_by (N := ["word", "sign"]) (sc := defScope sBack) (by decide +kernel))
      (fun _ _ _ _ _ => pg_name (i := 1) scBack.nd rfl (Or.inl rfl)) (fun _ _ _ _ _ => pts_nil) (fun _ _ _ _ _ => pe_call G hr rfl g FB.kp b .nil pass0 (pa_cons (pv 1) pa_nil))))), ?_⟩
    have hr2 : Ev (tRevS (tVar 0)) (start ["word", "sign"] [vS u]) H (vS u.reverse) := fun H1 e Q q => ⟨_, rfl, S u, rfl, by rw [S_len]; exact sz_of (by omega), q H1 (Ex.refl H1)⟩
    refine s_ret (ev_joinL (ws := (bw u).map fun c => [c]) nil_S (el_mapS (u := u.reverse) _ hr2 ?_ ?_ (fun _ => rfl) (fun i c y H1 e hc hy => ?_)) ?_) fun H1 e1 => ?_
    · unfold bw
      rw [List.length_map, List.length_map, List.length_map]
    · rw [List.length_reverse]
      omega
    · have e0 : y = vS [bk c] := by
        unfold bw at hy
        rw [List.getElem?_map, List.getElem?_map, List.getElem?_map, hc] at hy
        exact (Option.some.inj hy).symm
      subst e0
      have hm : c ∈ u := List.mem_reverse.mp (List.mem_of_getElem? hc)
      exact ev_call (ea_cons (ev_var rfl) ea_nil) (spBackOf_V (hu c hm))
    · rw [flat_one]
      unfold bw
      rw [List.length_map, List.length_reverse]
      omega
    · rw [flat_one]
      exact q H1 e1
end
end RW
set_option Elab.async false
set_option linter.all false
set_option maxRecDepth 100000
set_option maxHeartbeats 4000000
namespace RW
open PySem PySem.Spec PyProof.Rows L2 SX Evl

/-- the letter so many places on, going round -/
def atw (u : Wd) (k : Int) : Nat := u.getD (k % (u.length : Int)).toNat 0
theorem atw_get {u : Wd} (h : u ≠ []) (k : Int) : atI u (k % (u.length : Int)) = some (atw u k) ∧ atw u k ∈ u := by
  have hp : 0 < u.length := List.length_pos_iff.mpr h
  have h1 := Int.emod_nonneg k (show (u.length : Int) ≠ 0 by omega)
  have h2 := Int.emod_lt_of_pos k (show (0 : Int) < (u.length : Int) by omega)
  have h3 : (k % (u.length : Int)).toNat < u.length := by omega
  have h4 : u[(k % (u.length : Int)).toNat]? = some (atw u k) := by
    unfold atw
    rw [List.getD_eq_getElem?_getD, List.getElem?_eq_getElem h3]
    rfl
  refine ⟨?_, List.mem_of_getElem? h4⟩
  have h5 := atI_nat h4
  rw [Int.toNat_of_nonneg h1] at h5
  exact h5
/-- ways as a value; a strand as a value -/
def WaysT (H : Hp) (a : Addr) (W : List Wd) : Prop := H a = some (.tup (W.map vS))
def StrT (H : Hp) (a : Addr) (i p : Nat) : Prop := H a = some (.tup [.int (i : Int), .int (p : Int)])
theorem WaysT.ex {H H' : Hp} {a : Addr} {W : List Wd} (h : WaysT H a W) (e : Ex H H') : WaysT H' a W := e _ _ h
theorem StrT.ex {H H' : Hp} {a : Addr} {i p : Nat} (h : StrT H a i p) (e : Ex H H') : StrT H' a i p := e _ _ h
/-- a way among ways -/
structure WayAt (W : List Wd) (i : Nat) (u : Wd) : Prop where
  at_ : W[i]? = some u
  ne : u ≠ []
  few : u.length ≤ 100
theorem WayAt.get {W : List Wd} {i : Nat} {u : Wd} (h : WayAt W i u) : atI (W.map vS) (i : Int) = some (vS u) := atI_nat (by rw [List.getElem?_map, h.at_]; rfl)
theorem WayAt.pos {W : List Wd} {i : Nat} {u : Wd} (h : WayAt W i u) : 0 < u.length := List.length_pos_iff.mpr h.ne
theorem WayAt.small {W : List Wd} {i : Nat} {u : Wd} (h : WayAt W i u) : (S u).length ≤ sizeLine := by
  rw [S_len]
  exact sz_of (by have := h.few; omega)

def spLetterAt : Sp := fun vs H Q _ => ∃ (a b : Addr) (W : List Wd) (i p : Nat) (st : Int) (u : Wd), vs = [.ref a, .ref b, .int st] ∧ WaysT H a W ∧ StrT H b i p ∧ WayAt W i u ∧ RetV (vS [atw u ((p : Int) + st)]) H Q
def spMoved : Sp := fun vs H Q _ => ∃ (a b : Addr) (W : List Wd) (i p : Nat) (st : Int) (u : Wd), vs = [.ref a, .ref b, .int st] ∧ WaysT H a W ∧ StrT H b i p ∧ WayAt W i u ∧
  ∀ c H', H c = none → Ex H H' → H' c = some (.tup [.int (i : Int), .int (((p : Int) + st) % (u.length : Int))]) → Q (.ref c) H'
def spRoomOf : Sp := fun vs H Q _ => ∃ (a b c : Addr) (W : List Wd) (i p j q : Nat) (u v : Wd), vs = [.ref a, .ref b, .ref c] ∧ WaysT H a W ∧ StrT H b i p ∧ StrT H c j q ∧ WayAt W i u ∧ WayAt W j v ∧ RetV (.int ((u.length + v.length : Nat) : Int)) H Q
theorem spLetterAt_V {H : Hp} {a b : Addr} {W : List Wd} {i p : Nat} {st : Int} {u : Wd} (h1 : WaysT H a W) (h2 : StrT H b i p) (h3 : WayAt W i u) : SpV spLetterAt [.ref a, .ref b, .int st] H (vS [atw u ((p : Int) + st)]) :=
  fun H1 e Q q E => ⟨a, b, W, i, p, st, u, rfl, h1.ex e, h2.ex e, h3, q⟩
theorem spRoomOf_V {H : Hp} {a b c : Addr} {W : List Wd} {i p j q : Nat} {u v : Wd} (h1 : WaysT H a W) (h2 : StrT H b i p) (h3 : StrT H c j q) (h4 : WayAt W i u) (h5 : WayAt W j v) : SpV spRoomOf [.ref a, .ref b, .ref c] H (.int ((u.length + v.length : Nat) : Int)) :=
  fun H1 e Q z E => ⟨a, b, c, W, i, p, j, q, u, v, rfl, h1.ex e, h2.ex e, h3.ex e, h4, h5, z⟩
section
variable {P : Program} {w : World} {K : PySem.W.Frag} {mg : Str → Option Value} {base : Heap} {f : Addr} {fd : FuncData} {k : Nat}
theorem ok_letterAt (F : Fun K "letter_at" "letter_at" sLetterAt f fd) (ml : mg "len" = none) : FnOk P w K mg base CX0 (k + 1) f fd ["ways", "strand", "step"] spLetterAt := by
  refine F.ok scLetterAt (fun vs H Q E h => ?_) (fun cdv A outer s H vs Q E hr h => ?_)
  · obtain ⟨a, b, W, i, p, st, u, rfl, _⟩ := h
    rfl
  · obtain ⟨a, b, W, i, p, st, u, rfl, hW, hS, hu, q⟩ := h
    refine ⟨_, pss_cons (ps_asg (pv 1) (pg_tup (by rfl) (pgs_cons (pg_name (i := 3) scLetterAt.nd rfl (.inl rfl)) (pgs_cons (pg_name (i := 4) scLetterAt.nd rfl (.inl rfl)) pgs_nil))))
      (pss_one (ps_ret (pe_ix ix_str (pe_ix ix_tup (pv 0) (pv 3) (fun _ _ => rfl)) (pe_op op_mod (pe_op op_add (pv 4) (pv 2)) (pe_callB call_len (by rfl) ml PySem.boot_len (pa_cons (pe_ix ix_tup (pv 0) (pv 3) (fun _ _ => rfl)) pa_nil))) (fun _ _ => rfl)))), ?_⟩
    have hp := hu.pos
    refine ⟨.ref b, rfl, b, _, rfl, st_of hS, rfl, _, _, rfl, _, _, rfl, rfl, ?_⟩
    refine ⟨.ref a, rfl, .int (i : Int), rfl, a, _, _, _, rfl, rfl, st_of hW, hu.get, .int (p : Int), rfl, .int st, rfl, _, _, rfl, rfl, .ref a, rfl, .int (i : Int), rfl, a, _, _, _, rfl, rfl, st_of hW, hu.get, vS u, _, rfl, ⟨hu.small, rfl⟩, _, _, rfl, rfl, ?_, S u, _, _, rfl, rfl, hu.small, ?_, q H (Ex.refl H)⟩
    · rw [S_len]
      omega
    · rw [S_len]
      exact (atw_get hu.ne _).1
theorem ok_moved (F : Fun K "moved" "moved" sMoved f fd) (ml : mg "len" = none) : FnOk P w K mg base CX0 (k + 1) f fd ["ways", "strand", "step"] spMoved := by
  refine F.ok scMoved (fun vs H Q E h => ?_) (fun cdv A outer s H vs Q E hr h => ?_)
  · obtain ⟨a, b, W, i, p, st, u, rfl, _⟩ := h
    rfl
  · obtain ⟨a, b, W, i, p, st, u, rfl, hW, hS, hu, q⟩ := h
    refine ⟨_, pss_cons (ps_asg (pv 1) (pg_tup (by rfl) (pgs_cons (pg_name (i := 3) scMoved.nd rfl (.inl rfl)) (pgs_cons (pg_name (i := 4) scMoved.nd rfl (.inl rfl)) pgs_nil))))
      (pss_one (ps_ret (pe_tup (pa_cons (pv 3) (pa_cons (pe_op op_mod (pe_op op_add (pv 4) (pv 2)) (pe_callB call_len (by rfl) ml PySem.boot_len (pa_cons (pe_ix ix_tup (pv 0) (pv 3) (fun _ _ => rfl)) pa_nil))) pa_nil))))), ?_⟩
    have hp := hu.pos
    refine ⟨.ref b, rfl, b, _, rfl, st_of hS, rfl, _, _, rfl, _, _, rfl, rfl, ?_⟩
    refine ⟨.int (i : Int), rfl, .int (p : Int), rfl, .int st, rfl, _, _, rfl, rfl, .ref a, rfl, .int (i : Int), rfl, a, _, _, _, rfl, rfl, st_of hW, hu.get, vS u, _, rfl, ⟨hu.small, rfl⟩, _, _, rfl, rfl, ?_, by show 2 ≤ sizeLine; decide, fun c hc => q c _ hc (Ex.new hc) ?_⟩
    · rw [S_len]
      omega
    · rw [upd_same, S_len]
theorem ok_roomOf (F : Fun K "room_of" "room_of" sRoomOf f fd) (ml : mg "len" = none) : FnOk P w K mg base CX0 (k + 1) f fd ["ways", "one", "other"] spRoomOf := by
  refine F.ok scRoomOf (fun vs H Q E h => ?_) (fun cdv A outer s H vs Q E hr h => ?_)
  · obtain ⟨a, b, c, W, i, p, j, q, u, v, rfl, _⟩ := h
    rfl
  · obtain ⟨a, b, c, W, i, p, j, q, u, v, rfl, hW, hS, hT, hu, hv, z⟩ := h
    refine ⟨_, pss_one (ps_ret (pe_op op_add (pe_callB call_len (by rfl) ml PySem.boot_len (pa_cons (pe_ix ix_tup (pv 0) (pe_ix ix_tup (pv 1) pe_int (fun _ _ => rfl)) (fun _ _ => rfl)) pa_nil))
      (pe_callB call_len (by rfl) ml PySem.boot_len (pa_cons (pe_ix ix_tup (pv 0) (pe_ix ix_tup (pv 2) pe_int (fun _ _ => rfl)) (fun _ _ => rfl)) pa_nil)))), ?_⟩
    refine ⟨.ref a, rfl, .ref b, rfl, b, _, 0, _, rfl, rfl, st_of hS, atI_nat (j := 0) rfl, a, _, _, _, rfl, rfl, st_of hW, hu.get, vS u, _, rfl, ⟨hu.small, rfl⟩, .ref a, rfl, .ref c, rfl, c, _, 0, _, rfl, rfl, st_of hT, atI_nat (j := 0) rfl, a, _, _, _, rfl, rfl, st_of hW, hv.get, vS v, _, rfl, ⟨hv.small, rfl⟩, _, _, rfl, rfl, ?_⟩
    rw [S_len, S_len]
    have e := z H (Ex.refl H)
    rw [Int.natCast_add] at e
    exact e
end
end RW
set_option Elab.async false
set_option linter.all false
set_option maxRecDepth 100000
set_option maxHeartbeats 4000000
namespace RW
open PySem PySem.Spec PyProof.Rows L2 SX Evl

theorem boot_int : bootBuiltins "int" = some (.type "int") := by decide +kernel
theorem boot_bool : bootBuiltins "bool" = some (.type "bool") := by decide +kernel
theorem boot_str : bootBuiltins "str" = some (.type "str") := by decide +kernel
theorem boot_tup : bootBuiltins "tuple" = some (.type "tuple") := by decide +kernel
theorem boot_all : bootBuiltins "all" = some (.builtin "all") := by decide +kernel
theorem boot_set : bootBuiltins "set" = some (.type "set") := by decide +kernel
theorem boot_repr : bootBuiltins "repr" = some (.builtin "repr") := by decide +kernel
theorem boot_sorted : bootBuiltins "sorted" = some (.builtin "sorted") := by decide +kernel
theorem boot_list : bootBuiltins "list" = some (.type "list") := by decide +kernel

/-- within a comprehension: the written part by its own name -/
theorem isiK {X : Cx} (K : PySem.W.Frag) (e : X.K = K) : CallR X (.builtin "isinstance") (rIsi K) := by
  subst e
  exact call_isi
section
variable {K : PySem.W.Frag} {σ : L2.St} {H : Hp} {ta : TE} {x : V} {tn : String} {r : Bool}
theorem ev_isi {T : Value} (h : Ev ta σ H x) (ty : ∀ H1, Ex H H1 → TyX K H1 x T) (hk : PySem.W.kitOne K T (.type tn) = some r) : Ev (tCB (rIsi K) (tCons ta (tCons (tC (.ty tn)) tNil))) σ H (.bl r) := fun H1 e Q q =>
  h H1 e _ fun H2 e2 => ⟨x, .ty tn, T, .type tn, r, rfl, .ty tn, ty H2 (e.trans e2), hk, q H2 e2⟩
theorem ev_all {te : TE} {bs : List Bool} (h : EvL te σ H (bs.map V.bl)) : Ev (tCB (rAll K) (tCons te tNil)) σ H (.bl (bs.all id)) := fun H1 e Q q => h H1 e _ fun p H2 _ e2 h2 => ⟨p, bs, rfl, sq_of h2, q H2 e2⟩
theorem ev_isiInt {i : Int} (h : Ev ta σ H (.int i)) (hk : kitB "int" tn = some r) : Ev (tCB (rIsi K) (tCons ta (tCons (tC (.ty tn)) tNil))) σ H (.bl r) := ev_isi h (fun _ _ => .base (.int i)) (kit_ty hk)
theorem ev_isiStr {z : Str} (h : Ev ta σ H (.str z)) (hk : kitB "str" tn = some r) : Ev (tCB (rIsi K) (tCons ta (tCons (tC (.ty tn)) tNil))) σ H (.bl r) := ev_isi h (fun _ _ => .base (.str z)) (kit_ty hk)
theorem ev_isiTup {a : Addr} {xs : List V} (h : Ev ta σ H (.ref a)) (ha : H a = some (.tup xs)) (hk : kitB "tuple" tn = some r) : Ev (tCB (rIsi K) (tCons ta (tCons (tC (.ty tn)) tNil))) σ H (.bl r) := ev_isi h (fun H1 e => .base (.tup (e a _ ha))) (kit_ty hk)
end

/-! ### is_long, is_strand -/
def spIsLong : Sp := fun vs H Q _ => ∃ n : Nat, vs = [.int (n : Int)] ∧ RetV (.bl (decide (0 < n))) H Q
def spIsStrand : Sp := fun vs H Q _ => ∃ (a b : Addr) (W : List Wd) (i p : Nat) (u : Wd), vs = [.ref a, .ref b] ∧ WaysT H a W ∧ StrT H b i p ∧ W[i]? = some u ∧ p < u.length ∧ u.length ≤ 100 ∧ RetV (.bl true) H Q
theorem spIsLong_V {H : Hp} {n : Nat} : SpV spIsLong [.int (n : Int)] H (.bl (decide (0 < n))) := fun H1 _ Q q E => ⟨n, rfl, q⟩
theorem spIsStrand_V {H : Hp} {a b : Addr} {W : List Wd} {i p : Nat} {u : Wd} (h1 : WaysT H a W) (h2 : StrT H b i p) (h3 : W[i]? = some u) (h4 : p < u.length) (h5 : u.length ≤ 100) : SpV spIsStrand [.ref a, .ref b] H (.bl true) :=
  fun H1 e Q q E => ⟨a, b, W, i, p, u, rfl, h1.ex e, h2.ex e, h3, h4, h5, q⟩
section
variable {P : Program} {w : World} {K : PySem.W.Frag} {mg : Str → Option Value} {base : Heap} {f : Addr} {fd : FuncData} {k : Nat}
theorem ok_isLong (F : Fun K "is_long" "is_long" sIsLong f fd) (mi : mg "isinstance" = none) (mn : mg "int" = none) (mb : mg "bool" = none) : FnOk P w K mg base CX0 (k + 1) f fd ["thing"] spIsLong := by
  refine F.ok scIsLong (fun vs H Q E h => ?_) (fun cdv A outer s H vs Q E hr h => ?_)
  · obtain ⟨n, rfl, _⟩ := h
    rfl
  · obtain ⟨n, rfl, q⟩ := h
    refine ⟨_, pss_one (ps_ret (pe_and (pe_callB call_isi (by rfl) mi boot_isinstance (pa_cons (pv 0) (pa_cons (pe_bltn (v := .ty "int") (by rfl) mn boot_int rfl) pa_nil)))
      (pe_and (pe_not (pe_callB call_isi (by rfl) mi boot_isinstance (pa_cons (pv 0) (pa_cons (pe_bltn (v := .ty "bool") (by rfl) mb boot_bool rfl) pa_nil)))) (pe_one (pe_cmpR op_gt (pv 0) pe_int (nomark _)))))), ?_⟩
    refine s_ret (ev_andV (a := true) (ev_isiInt (ev_var rfl) (by decide +kernel)) fun _ => ev_andV (a := true) (ev_notV (a := false) (ev_isiInt (ev_var rfl) (by decide +kernel))) fun _ => ev_op (ev_var rfl) ev_c rv_I0) fun H1 e1 => ?_
    have e : (true && (!false && decide ((0 : Int) < (n : Int)))) = decide (0 < n) := by
      rw [Bool.true_and, Bool.not_false, Bool.true_and]
      exact decide_eq_decide.mpr (by omega)
    rw [show (true && (true && decide ((0 : Int) < (n : Int)))) = decide (0 < n) from e]
    exact q H1 e1
theorem ok_isStrand (F : Fun K "is_strand" "is_strand" sIsStrand f fd) (mi : mg "isinstance" = none) (mn : mg "int" = none) (mb : mg "bool" = none) (mt : mg "tuple" = none) (ml : mg "len" = none) (ma : mg "all" = none) :
    FnOk P w K mg base CX0 (k + 1) f fd ["ways", "thing"] spIsStrand := by
  refine F.ok scIsStrand (fun vs H Q E h => ?_) (fun cdv A outer s H vs Q E hr h => ?_)
  · obtain ⟨a, b, W, i, p, u, rfl, _⟩ := h
    rfl
  · obtain ⟨a, b, W, i, p, u, rfl, hW, hS, hu, hp, hl, q⟩ := h
    refine ⟨_, pss_cons (ps_if (PW.pt (pw_or (pt_not (pt_val (pe_callB call_isi (by rfl) mi boot_isinstance (pa_cons (pv 1) (pa_cons (pe_bltn (v := .ty "tuple") (by rfl) mt boot_tup rfl) pa_nil)))))
        (pw_or1 (pt_cmpR op_ne (pe_callB call_len_seq (by rfl) ml PySem.boot_len (pa_cons (pv 1) pa_nil)) pe_int (nomark _))))) (pss_one (ps_ret pe_bl)) pss_nil)
      (pss_cons (ps_if (pt_not (pt_val (pe_callB (cr_all rfl) (by rfl) ma boot_all (pa_cons (pe_lc (own := [("one", 2)]) (g := gName 2) rfl scIsStrand.nd (pi_tup (pv 1)) (blkOk_by (N := ["ways", "thing", "one"]) (sc := defScope sIsStrand) (by decide +kernel))
          (fun _ _ _ _ _ => pg_name (i := 2) scIsStrand.nd rfl (Or.inl rfl)) (fun _ _ _ _ _ => pts_nil) (fun _ _ _ _ _ => pe_and (pe_callB (isiK K rfl) (by rfl) mi boot_isinstance (pa_cons (pv 2) (pa_cons (pe_bltn (v := .ty "int") (by rfl) mn boot_int rfl) pa_nil)))
            (pe_and (pe_not (pe_callB (isiK K rfl) (by rfl) mi boot_isinstance (pa_cons (pv 2) (pa_cons (pe_bltn (v := .ty "bool") (by rfl) mb boot_bool rfl) pa_nil)))) (pe_one (pe_cmpR op_ge (pv 2) pe_int (nomark _)))))) pa_nil)))) (pss_one (ps_ret pe_bl)) pss_nil)
      (pss_one (ps_ret (pe_and (pe_cmpR op_lt (pe_ix ix_tup (pv 1) pe_int (fun _ _ => rfl)) (pe_callB call_len_seq (by rfl) ml PySem.boot_len (pa_cons (pv 0) pa_nil)) (nomark _))
        (pe_one (pe_cmpR op_lt (pe_ix ix_tup (pv 1) pe_int (fun _ _ => rfl)) (pe_callB call_len (by rfl) ml PySem.boot_len (pa_cons (pe_ix ix_tup (pv 0) (pe_ix ix_tup (pv 1) pe_int (fun _ _ => rfl)) (fun _ _ => rfl)) pa_nil)) (nomark _))))))), ?_⟩
    -- the shape
    refine q_when (b := false) (et_or (a := false) (et_not (a := true) (et_B (ev_isiTup (ev_var rfl) hS (by decide +kernel)))) fun _ => ?_) (fun z => by cases z) fun _ H1 e1 => ?_
    · refine fun H1 e Q z => ⟨.ref b, rfl, b, _, rfl, .inr (st_of (e b _ hS)), rfl, _, rfl, z H1 (Ex.refl H1)⟩
    -- its two numbers
    refine q_when (b := false) (et_not (a := true) (et_B (ev_all (bs := [true, true]) (el_mapT (a := b) (xs := [.int (i : Int), .int (p : Int)]) [.bl true, .bl true] (ev_var rfl) (st_of (e1 b _ hS)) rfl (by show 2 ≤ 40000; decide) (fun _ => rfl) (fun n x y H3 e3 hx hy => ?_))))) (fun z => by cases z) fun _ H2 e2 => ?_
    · have hxi : ∃ m : Nat, x = .int (m : Int) := by
        match n, hx with
        | 0, hx => exact ⟨i, (Option.some.inj hx).symm⟩
        | 1, hx => exact ⟨p, (Option.some.inj hx).symm⟩
      obtain ⟨m, rfl⟩ := hxi
      have hyt : y = .bl true := by
        match n, hy with
        | 0, hy => exact (Option.some.inj hy).symm
        | 1, hy => exact (Option.some.inj hy).symm
      subst hyt
      refine ev_is (ev_andV (a := true) (ev_isiInt (ev_var rfl) (by decide +kernel)) fun _ => ev_andV (a := true) (ev_notV (a := false) (ev_isiInt (ev_var rfl) (by decide +kernel))) fun _ => ev_op (ev_var rfl) ev_c rv_I0) ?_
      show V.bl (true && (true && decide ((0 : Int) ≤ (m : Int)))) = V.bl true
      rw [decide_eq_true (by omega)]
      rfl
    -- they lie among the ways
    have hS2 : StrT H2 b i p := e2 b _ (e1 b _ hS)
    have hW2 : WaysT H2 a W := e2 a _ (e1 a _ hW)
    have hi : i < W.length := (List.getElem?_eq_some_iff.mp hu).1
    refine ⟨.ref b, rfl, b, _, 0, _, rfl, rfl, st_of hS2, atI_nat (j := 0) rfl, .ref a, rfl, a, _, rfl, .inr (st_of hW2), _, _, rfl, rfl, true, ?_, iteT ?_⟩
    · show V.bl (decide ((i : Int) < ((W.map vS).length : Int))) = V.bl true
      rw [List.length_map, decide_eq_true (by omega)]
    · refine ⟨.ref b, rfl, b, _, 1, _, rfl, rfl, st_of hS2, atI_nat (j := 1) rfl, .ref a, rfl, .ref b, rfl, b, _, 0, _, rfl, rfl, st_of hS2, atI_nat (j := 0) rfl, a, _, _, _, rfl, rfl, st_of hW2, atI_nat (j := i) (by rw [List.getElem?_map, hu]; rfl), vS u, _, rfl, ⟨by rw [S_len]; exact sz_of (by omega), rfl⟩, _, _, rfl, rfl, ?_⟩
      show Q (.bl (decide ((p : Int) < ((S u).length : Int)))) H2
      rw [S_len, decide_eq_true (by omega)]
      exact q H2 (e1.trans e2)
end
end RW
set_option Elab.async false
set_option linter.all false
set_option maxRecDepth 100000
set_option maxHeartbeats 4000000
namespace RW
open PySem PySem.Spec PyProof.Rows L2 SX Evl

theorem rot_ds {F : Wd} {b o : Nat} (nd : F.Nodup) (hb : b ∈ F) (ho : o ∈ F) : (rot F (F.idxOf b)).idxOf o = ds F b o := by
  rw [rot_idx nd (Nat.le_of_lt (idx_lt hb)) ho]
  rfl
/-- s.index(c), the sign in the text -/
def rIdx : V → List V → Hp → VK → Prop := fun x xs H Q => ∃ (u : Wd) (c : Nat), x = vS u ∧ xs = [vS [c]] ∧ c ∈ u ∧ Q (.int ((u.idxOf c : Nat) : Int)) H
theorem mt_idx {X : Cx} : MtR X "str.index" rIdx := by
  intro pins s σ H x xs v us Q I rx rs h
  obtain ⟨u, c, rfl, rfl, hc, q⟩ := h
  obtain ⟨rest, e⟩ := idx_S hc
  exact mt_sindex pins s σ H _ _ v us Q I rx rs ⟨S u, S [c], _, rest, rfl, rfl, e, q⟩
section
variable {K : PySem.W.Frag} {σ : L2.St} {H : Hp} {ta tb : TE} {u : Wd} {c : Nat}
theorem ev_idx (h : Ev ta σ H (vS u)) (h2 : Ev tb σ H (vS [c])) (hc : c ∈ u) : Ev (tBM K "str" rIdx ta (tCons tb tNil)) σ H (.int ((u.idxOf c : Nat) : Int)) := fun H1 e Q q =>
  h H1 e _ fun H2 e2 => ⟨rfl, h2 H2 (e.trans e2) _ fun H3 e3 => ⟨u, c, rfl, rfl, hc, q H3 (e2.trans e3)⟩⟩
theorem ev_from {k : Nat} (h : Ev ta σ H (vS u)) (h2 : Ev tb σ H (.int (k : Int))) (hz : u.length ≤ 1000) : Ev (tSl rSlS ta (tPart tb) tNoPart) σ H (vS (u.drop k)) := fun H1 e Q q =>
  h H1 e _ fun H2 e2 => h2 H2 (e.trans e2) _ fun H3 e3 => ⟨k, rfl, S u, rfl, by rw [S_len]; exact sz_of (by omega), by rw [cut_from]; exact q H3 (e2.trans e3)⟩
theorem ev_to {k : Nat} (h : Ev ta σ H (vS u)) (h2 : Ev tb σ H (.int (k : Int))) (hz : u.length ≤ 1000) : Ev (tSl rSlS ta tNoPart (tPart tb)) σ H (vS (u.take k)) := fun H1 e Q q =>
  h H1 e _ fun H2 e2 => h2 H2 (e.trans e2) _ fun H3 e3 => ⟨k, rfl, S u, rfl, by rw [S_len]; exact sz_of (by omega), by rw [cut_to]; exact q H3 (e2.trans e3)⟩
def rAddT : R2 := fun x y H Q => ∃ i j, x = .str i ∧ y = .str j ∧ i.length + j.length ≤ sizeLine ∧ Q (.str (i ++ j)) H
theorem ev_cat {v : Wd} (h : Ev ta σ H (vS u)) (h2 : Ev tb σ H (vS v)) (hz : u.length + v.length ≤ 2000) : Ev (tOp rAddT ta tb) σ H (vS (u ++ v)) := fun H1 e Q q =>
  h H1 e _ fun H2 e2 => h2 H2 (e.trans e2) _ fun H3 e3 => ⟨S u, S v, rfl, rfl, by rw [S_len, S_len]; exact sz_of (by omega), by rw [S_cat]; exact q H3 (e2.trans e3)⟩
theorem ev_lenS (h : Ev ta σ H (vS u)) (hz : u.length ≤ 1000) : Ev (tCB (fun xs H Q => ∃ x n, xs = [x] ∧ LenV K x H n ∧ Q (.int (n : Nat)) H) (tCons ta tNil)) σ H (.int ((u.length : Nat) : Int)) := fun H1 e Q q =>
  h H1 e _ fun H2 e2 => ⟨vS u, u.length, rfl, ⟨by rw [S_len]; exact sz_of (by omega), (S_len u).symm⟩, q H2 e2⟩
end

/-! ### comes_first -/
def spComesFirst : Sp := fun vs H Q _ => ∃ (F : Wd) (b o t : Nat), vs = [vS F, vS [b], vS [o], vS [t]] ∧ F.Nodup ∧ b ∈ F ∧ o ∈ F ∧ t ∈ F ∧ F.length ≤ 100 ∧ RetV (.bl (cf F b o t)) H Q
theorem spComesFirst_V {H : Hp} {F : Wd} {b o t : Nat} (h1 : F.Nodup) (h2 : b ∈ F) (h3 : o ∈ F) (h4 : t ∈ F) (h5 : F.length ≤ 100) : SpV spComesFirst [vS F, vS [b], vS [o], vS [t]] H (.bl (cf F b o t)) :=
  fun H1 _ Q q E => ⟨F, b, o, t, rfl, h1, h2, h3, h4, h5, q⟩
section
variable {P : Program} {w : World} {K : PySem.W.Frag} {mg : Str → Option Value} {base : Heap} {f : Addr} {fd : FuncData} {k : Nat}
theorem ok_comesFirst (F : Fun K "comes_first" "comes_first" sComesFirst f fd) : FnOk P w K mg base CX0 (k + 1) f fd ["surface", "begin", "one", "other"] spComesFirst := by
  refine F.ok scComesFirst (fun vs H Q E h => ?_) (fun cdv A outer s H vs Q E hr h => ?_)
  · obtain ⟨F, b, o, t, rfl, _⟩ := h
    rfl
  · obtain ⟨F, b, o, t, rfl, nd, hb, ho, ht, hl, q⟩ := h
    refine ⟨_, pss_cons (ps_set (i := 4) scComesFirst.nd rfl (.inl rfl) (pe_bm PySem.F.plainAttrs_str PySem.F.slot_str_index PySem.F.type_str_index mt_idx (pv 0) (pa_cons (pv 1) pa_nil)))
      (pss_cons (ps_set (i := 5) scComesFirst.nd rfl (.inl rfl) (pe_op op_add_str (pe_slice sl_str (pv 0) (po_some (pv 4)) po_none) (pe_slice sl_str (pv 0) po_none (po_some (pv 4)))))
      (pss_one (ps_ret (pe_cmpR op_lt (pe_bm PySem.F.plainAttrs_str PySem.F.slot_str_index PySem.F.type_str_index mt_idx (pv 5) (pa_cons (pv 2) pa_nil))
        (pe_bm PySem.F.plainAttrs_str PySem.F.slot_str_index PySem.F.type_str_index mt_idx (pv 5) (pa_cons (pv 3) pa_nil)) (nomark _))))), ?_⟩
    refine q_asg (ev_idx (ev_var rfl) (ev_var rfl) hb) fun H1 e1 => ?_
    refine q_asg (ev_cat (ev_from (k := F.idxOf b) (ev_var rfl) (ev_var rfl) (by omega)) (ev_to (k := F.idxOf b) (ev_var rfl) (ev_var rfl) (by omega)) (by rw [List.length_drop, List.length_take]; omega)) fun H2 e2 => ?_
    refine s_ret (ev_op (ev_idx (u := rot F (F.idxOf b)) (ev_var rfl) (ev_var rfl) (rot_mem.mpr ho)) (ev_idx (u := rot F (F.idxOf b)) (ev_var rfl) (ev_var rfl) (rot_mem.mpr ht)) rv_I0) fun H3 e3 => ?_
    have e : decide ((((rot F (F.idxOf b)).idxOf o : Nat) : Int) < (((rot F (F.idxOf b)).idxOf t : Nat) : Int)) = cf F b o t := by
      rw [rot_ds nd hb ho, rot_ds nd hb ht]
      unfold cf
      exact decide_eq_decide.mpr (by omega)
    show Q (.bl (decide ((((rot F (F.idxOf b)).idxOf o : Nat) : Int) < (((rot F (F.idxOf b)).idxOf t : Nat) : Int)))) H3
    rw [e]
    exact q H3 ((e1.trans e2).trans e3)
end
end RW
set_option Elab.async false
set_option linter.all false
set_option maxRecDepth 100000
set_option maxHeartbeats 4000000
namespace RW
open PySem PySem.Spec PyProof.Rows L2 SX Evl

/-! ### how many unlike texts there are in a list: len(set(xs)) -/
def stp (acc : List Str) (x : Str) : List Str := if x ∈ acc then acc else acc ++ [x]
def met (xs : List Str) : List Str := xs.foldl stp []
theorem met_snoc (xs : List Str) (x : Str) : met (xs ++ [x]) = stp (met xs) x := by
  unfold met
  rw [List.foldl_append]
  rfl
theorem stp_le (acc : List Str) (x : Str) : (stp acc x).length ≤ acc.length + 1 := by
  unfold stp
  split
  · omega
  · rw [List.length_append, List.length_singleton]
    omega
theorem met_le : ∀ xs : List Str, (met xs).length ≤ xs.length := by
  have h : ∀ (xs acc : List Str), (xs.foldl stp acc).length ≤ acc.length + xs.length := by
    intro xs
    induction xs with
    | nil => intro acc; exact Nat.le_refl _
    | cons x xs ih =>
      intro acc
      have a := ih (stp acc x)
      have b := stp_le acc x
      rw [List.foldl_cons, List.length_cons]
      omega
  intro xs
  have := h xs []
  rw [List.length_nil, Nat.zero_add] at this
  exact this
section
variable {prog : Program} {w : World} {A : Around} {I Z : Addr} {fp wr : List Addr} {G : Array GenState → Array GenState → Prop} {n : Nat} {Pv : Nat → Value → Prop} {St : Nat → Shared → Prop} {R : Result → Shared → Prop} {xs : List Str}
/-- at Z stands the set of these texts -/
def SetS (prog : Program) (w : World) (h : Heap) (Z : Addr) (ys : List Str) : Prop := h.SetOf (PySem.strKind prog w) Z (fun x => decide (x ∈ ys)) ys.length
theorem SetS.same {h h' : Heap} {ys : List Str} (q : SetS prog w h Z ys) (e : ∀ o, h.get? Z = some o → h'.get? Z = some o) : SetS prog w h' Z ys := by
  obtain ⟨o, es, ep, t, ho, r⟩ := q
  exact ⟨o, es, ep, t, e o ho, r⟩
/-- the loop that fills it, from turn i on -/
theorem fill_texts (W : WalksS prog w A.in1 I fp wr G n Pv St) (hZ : Z ∉ fp) (hn : xs.length = n) (hfew : n + 1 < scanBound) (hv : ∀ i v, Pv i v → ∃ t, v = .str (xs.getD i Str.empty) t) :
    ∀ (k i : Nat) (s : Shared), i + k = n → St i s → SetS prog w s.heap Z (met (xs.take i)) → (∀ s', Moved (Z :: wr) G s s' → SetS prog w s'.heap Z (met xs) → R (.ok (.ret .none)) s') →
      codeAny (model prog w) A (.builtin "set.update.loop" ⟨[.ref Z, .ref I], []⟩) R s := by
  have hZw : Z ∉ wr := fun z => hZ (W.sub _ z)
  have wider : ∀ b ∈ wr, b ∈ Z :: wr := fun b z => List.mem_cons_of_mem _ z
  intro k
  induction k with
  | zero =>
    intro i s hk hst hq hR
    have e : xs.take i = xs := List.take_of_length_le (by omega)
    have hin : i = n := by omega
    subst hin
    rw [e] at hq
    refine codeAny_builtin PyProof.Rows.F.entry_set_update_loop ?_
    rw [Around.under_plainId PyProof.Rows.F.plain_set_update_loop _]
    exact wpAny_bind (m := pyNext (.ref I)) (W.done s _ _ hst fun s' hm => wpAny_pure (hR s' (hm.mono wider) (hq.same fun o z => hm.heap Z o hZw z)))
  | succ k ih =>
    intro i s hk hst hq hR
    have hlt : i < n := by omega
    refine codeAny_builtin PyProof.Rows.F.entry_set_update_loop ?_
    rw [Around.under_plainId PyProof.Rows.F.plain_set_update_loop _]
    refine wpAny_bind (m := pyNext (.ref I)) (W.item i s _ _ hlt hst fun v s' hP hst' hm => ?_)
    obtain ⟨t, rfl⟩ := hv i v hP
    have hq' := hq.same (h' := s'.heap) fun o z => hm.heap Z o hZw z
    refine wpAny_bind (m := holding [Value.str (xs.getD i Str.empty) t] (setAdd Z (.str (xs.getD i Str.empty) t))) (wpAny_holding ?_)
    unfold setAdd
    refine wpAny_holding (wpAny_bind ((PySem.strKind prog w).pyHash (k := xs.getD i Str.empty) (strKind_is _ _ _ _) ?_))
    have few : (met (xs.take i)).length + 1 < scanBound := by
      have a := met_le (xs.take i)
      rw [List.length_take] at a
      omega
    refine wpAny_setAddHashed_of (knd := PySem.strKind prog w) (s := { s' with toks := s'.toks + 1 }) (strKind_is _ _ _ _) rfl hq' few fun h' sb hq2 => ?_
    have e1 : xs.take (i + 1) = xs.take i ++ [xs.getD i Str.empty] := by
      rw [List.take_add_one, List.getD_eq_getElem?_getD, List.getElem?_eq_getElem (by omega)]
      rfl
    have hq3 : SetS prog w h' Z (met (xs.take (i + 1))) := by
      rw [e1, met_snoc]
      refine PyProof.Rows.SetOf_congr hq2 (fun y => ?_) ?_
      · unfold stp
        by_cases c : xs.getD i Str.empty ∈ met (xs.take i)
        · rw [if_pos c]
          by_cases d : y = xs.getD i Str.empty
          · subst d
            rw [decide_eq_true c]
            rfl
          · rw [decide_eq_false d, Bool.or_false]
        · rw [if_neg c]
          simp only [List.mem_append, List.mem_singleton]
          rw [Bool.decide_or]
      · unfold stp
        by_cases c : xs.getD i Str.empty ∈ met (xs.take i)
        · rw [if_pos c, if_pos (decide_eq_true c)]
        · rw [if_neg c, if_neg (by rw [decide_eq_false c]; exact Bool.false_ne_true), List.length_append]
          rfl
    refine wpAny_pure ⟨plainId_quiet PyProof.Rows.F.plain_set_update_loop _, ih (i + 1) _ (by omega) (W.frame _ s' _ _ hst' (Nat.le_succ _) fun b z o e => ?_) hq3 fun s2 hm2 hq4 => hR s2 (Moved.trans W.gtrans ((hm.mono wider).then_heap (Nat.le_succ _) fun b o z e => ?_) hm2) hq4⟩
    · exact (sb.2 b fun y => hZ (y ▸ z)).trans e
    · exact (sb.2 b fun y => z (y ▸ List.mem_cons_self)).trans e
end
section
variable {prog : Program} {w : World} {A : Around} {E : Value → Shared → Prop} {s : Shared}
theorem call_set_texts {l : Addr} {items : Array Value} {xs : List Str} {Q : Value → Shared → Prop} (hh : A.handled = none) (hl : s.heap.IsList l items) (hi : StrsAre items.toList xs) (hb : xs.length + 1 < scanBound)
    (h : ∀ (h' : Heap) (tk : Nat), SetS prog w h' s.heap.objs.size (met xs) → (∀ b o, s.heap.get? b = some o → h'.get? b = some o) → Q (.ref s.heap.objs.size) { s with heap := h', toks := tk }) : wpAny (model prog w) A (call (.type "set") [.ref l]) Q E s := by
  have hn : xs.length = items.size := by rw [← StrsAre.len_eq hi, Array.length_toList]
  obtain ⟨c, tl, hmro⟩ := PySem.F.called_set.mro
  have hmade := PySem.F.called_set.made
  have hsub := PySem.F.called_set.sub
  refine wpAny_call (codeAny_of_tree ?_)
  show wpAny _ _ (callAny (.type "set") _) _ _ _
  refine wpAny_pure ⟨Code.quiet_builtin _ (by decide +kernel), codeAny_builtin PySem.F.entry_type_call ?_⟩
  rw [Around.under_plain (weight_type_call_type "set" [.ref l] []) rfl]
  have h1 := PySem.F.called_set.notType
  have h2 := PySem.F.called_set.canCreate
  have hct := PySem.F.typeCall_set_1 (.ref l)
  repeat (any_goals (first | assumption | wp_step))
  refine codeAny_mono (code_set_new_1 (.ref l) (E := E) (Q₁ := fun obj s1 => ∃ led : Bool, obj = .ref s.heap.objs.size ∧ s1 = { s with heap := s.heap.push { cls := .type "set", dict := none, data := .set #[] 0 (.fresh 0 0 led) } }) fun led => ⟨led, rfl, rfl⟩) fun r s1 hr => ?_
  rcases r with e | fl
  · exact hr
  rcases fl with _ | _ | _ | obj
  · exact hr.elim
  · exact hr.elim
  · exact hr.elim
  obtain ⟨led, rfl, rfl⟩ := hr
  have hS : (s.heap.push { cls := .type "set", dict := none, data := .set #[] 0 (.fresh 0 0 led) }).get? s.heap.objs.size = some { cls := .type "set", dict := none, data := .set #[] 0 (.fresh 0 0 led) } := Heap.get?_push_size _ rfl
  have hT : Shared.TypeIs { s with heap := s.heap.push { cls := .type "set", dict := none, data := .set #[] 0 (.fresh 0 0 led) } } (.ref s.heap.objs.size) "set" := ⟨_, hS, rfl⟩
  have hli := PySem.F.called_set.init.lookup
  have hbi := PySem.F.called_set.init.bind (.ref s.heap.objs.size)
  repeat (any_goals (first | assumption | wp_step))
  refine codeAny_mono (codeAny_call_builtin (R := wants (fun r s2 => r = .none ∧ ∃ h' tk, s2 = { s with heap := h', toks := tk } ∧ SetS prog w h' s.heap.objs.size (met xs) ∧ ∀ b o, s.heap.get? b = some o → h'.get? b = some o) E)
    PySem.F.called_set.init.plain PySem.F.entry_set_init (check_set_init_1 hT ?_)) fun r2 s2 hr2 => ?_
  · obtain ⟨⟨oc, od, odata, osl⟩, hol, hcl, nl, hdl⟩ := hl
    simp only at hcl hdl
    subst hcl hdl
    have hol' : (s.heap.push { cls := .type "set", dict := none, data := .set #[] 0 (.fresh 0 0 led) }).get? l = some { cls := .type "list", dict := od, data := .seq items nl, slots := osl } := Heap.get?_push_of_some _ hol
    have hsls := PySem.F.sub_list_set
    have hslf := PySem.F.sub_list_frozenset
    have hne : (Value.type "list" == Value.type "dict") = false := by decide
    have hl1 : (s.heap.push { cls := .type "set", dict := none, data := .set #[] 0 (.fresh 0 0 led) }).IsList l items := ⟨_, hol', rfl, nl, rfl⟩
    unfold Builtin.«set.__init__» noKeywords Builtin.Frozenset.updateFrom
    generalize hPI : pyIter = PI
    wp_walk
    subst hPI
    refine wpAny_pyIter_list hl1 ?_
    refine wpAny_bind (wpAny_runValue ?_)
    have hlS : l < s.heap.objs.size := Heap.lt_size hol
    have hz1 : (s.heap.push { cls := .type "set", dict := none, data := .set #[] 0 (.fresh 0 0 led) }).objs.size = s.heap.objs.size + 1 := Heap.size_push ..
    have hh3 : A.in1.in1.in1.handled = none := hh
    have apart : l ≠ (s.heap.push { cls := .type "set", dict := none, data := .set #[] 0 (.fresh 0 0 led) }).objs.size := by rw [hz1]; exact Nat.ne_of_lt (Nat.lt_succ_of_lt hlS)
    have out : s.heap.objs.size ∉ [(s.heap.push { cls := .type "set", dict := none, data := .set #[] 0 (.fresh 0 0 led) }).objs.size, l] := by
      rw [hz1, List.mem_cons, List.mem_singleton, not_or]
      exact ⟨Nat.ne_of_lt (Nat.lt_succ_self _), Nat.ne_of_gt hlS⟩
    refine fill_texts (xs := xs) ((Walks.list hh3 _ l apart items).toS) out hn (by rw [← hn]; exact hb) (fun i v hv => SS.strs_at hi i v (by rw [Array.getElem?_toList]; exact hv)) items.size 0 _ (by omega) ⟨⟨_, Heap.get?_push_size _ rfl, rfl, rfl⟩, hl1.push _⟩ ?_ fun s' hm hq => ?_
    · have g := Heap.get?_push_of_some { cls := .type "list_iterator", data := .fields #[.ref l, .int 0 0] } hS
      have hq0 := (PyProof.Rows.setObjOf_fresh (knd := PySem.strKind prog w) led).setOf g (by unfold scanBound; omega)
      exact PyProof.Rows.SetOf_congr hq0 (fun _ => rfl) rfl
    · obtain ⟨h', g', d', tk', os'⟩ := s'
      obtain rfl : g' = s.gens := hm.gens
      obtain rfl : d' = s.drawn := hm.drawn
      obtain rfl : os' = s.os := hm.os
      refine wpAny_pure ?_
      show wpAny _ _ (ret Value.none) _ _ _
      refine wpAny_pure ⟨rfl, h', tk', rfl, hq, fun b o e => ?_⟩
      have hbl := Heap.lt_size e
      refine hm.heap b o ?_ (Heap.get?_push_of_some _ (Heap.get?_push_of_some _ e))
      rw [hz1, List.mem_cons, List.mem_singleton, not_or]
      exact ⟨Nat.ne_of_lt hbl, Nat.ne_of_lt (Nat.lt_succ_of_lt hbl)⟩
  · rcases r2 with e | fl2
    · exact hr2
    rcases fl2 with _ | _ | _ | r
    · exact hr2.elim
    · exact hr2.elim
    · exact hr2.elim
    obtain ⟨rfl, h', tk, rfl, hq, hk⟩ := hr2
    repeat (any_goals (first | assumption | wp_step))
    exact h _ _ hq hk
end
section
variable {X : Cx}
def tLenSetS (K : PySem.W.Frag) (ta : TE) : TE := fun σ H Q => ta σ H fun x H1 => ∃ (l : Addr) (ys : List Str), x = .ref l ∧ SqL K H1 l (ys.map V.str) ∧ ys.length ≤ 1000 ∧ Q (.int ((met ys).length : Nat)) H1
theorem pe_lenSetS {a : Expr} {ta : TE} {p p2 q pos : Pos} (hg : Gl X "len") (hm : X.mg "len" = none) (hg2 : Gl X "set") (hm2 : X.mg "set" = none) (ha : PE X a ta) (hc : X.calm = true := by rfl)
    (na : starEach [a] X.env = (false, eval a X.env) :: starEach [] X.env := by rfl) : PE X (.Call (.Name "len" p) [.Call (.Name "set" p2) [a] [] q] [] pos) (tLenSetS X.K ta) := by
  refine ⟨fun pins s σ H Q I h => Call_ (ld_blt I hg hm PySem.boot_len (PyProof.Rows.callWith_builtin1 (PyProof.Rows.args_cons ?_ rfl) rfl rfl))⟩
  refine Call_ (ld_blt I hg2 hm2 boot_set ?_)
  refine PyProof.Rows.callWith_type1 (PyProof.Rows.args_cons (thn (ha.run pins s σ H _ I h) fun v s1 ⟨x, H1, I1, r1, q1⟩ => PyProof.Rows.args_nil ?_) na) na rfl
  obtain ⟨l, ys, rfl, hq, hz, q1⟩ := q1
  cases r1
  obtain ⟨its, r, pl, _⟩ := I1.list hq
  refine call_set_texts (I1.ok.hd hc) pl.isList (by simpa using L2.strsAre_of r) (by unfold scanBound; omega) fun h' tk hS hk => ?_
  refine PyProof.Rows.args_nil ?_
  obtain ⟨o, es, ep, t, ho, hex, hd, _, _, _, hf, hn⟩ := hS
  have I2 : Inv X pins σ H1 { s1 with heap := h', toks := tk } := I1.kept hk
  have hle := met_le ys
  exact call_len_set ho hex hd hf (by rw [hn]; omega) ⟨.int ((met ys).length : Nat), H1, I2.tok _, ⟨_, by rw [hn]⟩, q1⟩
end
end RW
set_option Elab.async false
set_option linter.all false
set_option maxRecDepth 100000
set_option maxHeartbeats 4000000
namespace RW
open PySem PySem.Spec PyProof.Rows L2 SX Evl

/-! ### surfaces -/
structure Sf (F : Wd) (n : Nat) : Prop where
  nd : F.Nodup
  mem : ∀ c, c ∈ F ↔ isLK n c
  one : 1 ≤ n
  six : n ≤ 6
  len : F.length = 2 * n
theorem Sf.bk {F : Wd} {n c : Nat} (h : Sf F n) (hc : c ∈ F) : RW.bk c ∈ F := (h.mem _).mpr (bk_isLK h.six ((h.mem c).mp hc))
theorem Sf.six' {F : Wd} {n c : Nat} (h : Sf F n) (hc : c ∈ F) : isLK 6 c := isLK_mono ((h.mem c).mp hc) h.six
theorem Sf.small {F : Wd} {n : Nat} (h : Sf F n) : F.length ≤ 100 := by
  have := h.len
  have := h.six
  omega
/-- two strands on a surface -/
structure LC (H : Hp) (a b c : Addr) (F : Wd) (n : Nat) (W : List Wd) (i p j q : Nat) (u v : Wd) : Prop where
  sf : Sf F n
  ways : WaysT H a W
  s1 : StrT H b i p
  s2 : StrT H c j q
  w1 : WayAt W i u
  w2 : WayAt W j v
  l1 : ∀ d ∈ u, d ∈ F
  l2 : ∀ d ∈ v, d ∈ F
  p1 : p < u.length
  p2 : q < v.length
section
variable {H H' : Hp} {a b c : Addr} {F : Wd} {n : Nat} {W : List Wd} {i p j q : Nat} {u v : Wd}
theorem LC.ex (h : LC H a b c F n W i p j q u v) (e : Ex H H') : LC H' a b c F n W i p j q u v := ⟨h.sf, h.ways.ex e, h.s1.ex e, h.s2.ex e, h.w1, h.w2, h.l1, h.l2, h.p1, h.p2⟩
theorem LC.a1 (h : LC H a b c F n W i p j q u v) (k : Int) : atw u k ∈ F := h.l1 _ (atw_get h.w1.ne k).2
theorem LC.a2 (h : LC H a b c F n W i p j q u v) (k : Int) : atw v k ∈ F := h.l2 _ (atw_get h.w2.ne k).2
theorem LC.b1 (h : LC H a b c F n W i p j q u v) (k : Int) : bk (atw u k) ∈ F := h.sf.bk (h.a1 k)
theorem LC.b2 (h : LC H a b c F n W i p j q u v) (k : Int) : bk (atw v k) ∈ F := h.sf.bk (h.a2 k)
end
/-- the order of strands -/
def ltS (i p j q : Nat) : Bool := if i = j then decide (p < q) else decide (i < j)
theorem lex_ltS (i p j q : Nat) : HT.lexLt [(i : Int), (p : Int)] [(j : Int), (q : Int)] = ltS i p j q := by
  show (if (i : Int) = (j : Int) then (if (p : Int) = (q : Int) then false else decide ((p : Int) < (q : Int))) else decide ((i : Int) < (j : Int))) = ltS i p j q
  unfold ltS
  by_cases h : i = j
  · rw [if_pos h, if_pos (by omega)]
    by_cases h2 : p = q
    · rw [if_pos (by omega), decide_eq_false (by omega)]
    · rw [if_neg (by omega)]
      exact decide_eq_decide.mpr (by omega)
  · rw [if_neg h, if_neg (by omega)]
    exact decide_eq_decide.mpr (by omega)
def four (f l b e : Nat) : Bool := decide (f ≠ l ∧ f ≠ b ∧ f ≠ e ∧ l ≠ b ∧ l ≠ e ∧ b ≠ e)
theorem S1_inj {a b : Nat} (h : S [a] = S [b]) : a = b := by
  have e := S_inj h
  simpa using e
theorem met_four (f l b e : Nat) : ((met [S [f], S [l], S [b], S [e]]).length < 4) = (four f l b e = false) := by
  have i1 : ∀ x y : Nat, (S [x] = S [y]) = (x = y) := fun x y => propext ⟨S1_inj, fun z => by rw [z]⟩
  unfold four met
  simp only [List.foldl_cons, List.foldl_nil]
  by_cases h1 : f = l
  · subst h1
    have s1 : stp (stp [] (S [f])) (S [f]) = [S [f]] := by unfold stp; simp
    rw [s1, decide_eq_false (by simp)]
    have a1 := stp_le [S [f]] (S [b])
    have a2 := stp_le (stp [S [f]] (S [b])) (S [e])
    have a3 : [S [f]].length = 1 := rfl
    exact propext ⟨fun _ => rfl, fun _ => by omega⟩
  · have s1 : stp (stp [] (S [f])) (S [l]) = [S [f], S [l]] := by
      unfold stp
      simp [i1, Ne.symm h1]
    rw [s1]
    by_cases h2 : b = f ∨ b = l
    · have s2 : stp [S [f], S [l]] (S [b]) = [S [f], S [l]] := by
        unfold stp
        rw [if_pos]
        simp only [List.mem_cons, List.not_mem_nil, or_false, i1]
        exact h2
      rw [s2, decide_eq_false (by rcases h2 with h2 | h2 <;> subst h2 <;> simp)]
      have a2 := stp_le [S [f], S [l]] (S [e])
      have a3 : [S [f], S [l]].length = 2 := rfl
      exact propext ⟨fun _ => rfl, fun _ => by omega⟩
    · have s2 : stp [S [f], S [l]] (S [b]) = [S [f], S [l], S [b]] := by
        unfold stp
        rw [if_neg]
        · rfl
        simp only [List.mem_cons, List.not_mem_nil, or_false, i1]
        exact h2
      rw [s2]
      by_cases h3 : e = f ∨ e = l ∨ e = b
      · have s3 : stp [S [f], S [l], S [b]] (S [e]) = [S [f], S [l], S [b]] := by
          unfold stp
          rw [if_pos]
          simp only [List.mem_cons, List.not_mem_nil, or_false, i1]
          exact h3
        rw [s3, decide_eq_false (by rcases h3 with h3 | h3 | h3 <;> subst h3 <;> simp)]
        exact propext ⟨fun _ => rfl, fun _ => by show 3 < 4; omega⟩
      · have s3 : stp [S [f], S [l], S [b]] (S [e]) = [S [f], S [l], S [b], S [e]] := by
          unfold stp
          rw [if_neg]
          · rfl
          simp only [List.mem_cons, List.not_mem_nil, or_false, i1]
          exact h3
        rw [s3, decide_eq_true (by omega)]
        exact propext ⟨fun z => by have z' : 4 < 4 := z; omega, fun z => by cases z⟩

/-! ### is_beside -/
def besC (F u v : Wd) (p q : Int) : Bool := four (bk (atw u p)) (atw u (p + 1)) (bk (atw v q)) (atw v (q + 1)) && crs F (bk (atw u p)) (atw u (p + 1)) (bk (atw v q)) (atw v (q + 1))
def spIsBeside : Sp := fun vs H Q _ => ∃ (a b c : Addr) (F : Wd) (n : Nat) (W : List Wd) (i p j q : Nat) (u v : Wd), vs = [vS F, .ref a, .ref b, .ref c] ∧ LC H a b c F n W i p j q u v ∧ RetV (.bl (ltS i p j q && besC F u v p q)) H Q
theorem spIsBeside_V {H : Hp} {a b c : Addr} {F : Wd} {n : Nat} {W : List Wd} {i p j q : Nat} {u v : Wd} (h : LC H a b c F n W i p j q u v) : SpV spIsBeside [vS F, .ref a, .ref b, .ref c] H (.bl (ltS i p j q && besC F u v p q)) :=
  fun H1 e Q z E => ⟨a, b, c, F, n, W, i, p, j, q, u, v, rfl, h.ex e, z⟩
theorem bw_one (c : Nat) : bw [c] = [bk c] := rfl
section
variable {σ : L2.St} {H : Hp} {ta tb tc : TE} {a b : Addr} {W : List Wd} {i p : Nat} {st : Int} {u : Wd} {E : XK}
theorem ev_at (h1 : Ev ta σ H (.ref a)) (h2 : Ev tb σ H (.ref b)) (h3 : Ev tc σ H (.int st)) (hW : WaysT H a W) (hS : StrT H b i p) (hu : WayAt W i u) :
    Ev (tCall spLetterAt [] E (tCons ta (tCons tb (tCons tc tNil)))) σ H (vS [atw u ((p : Int) + st)]) := ev_call (ea_cons h1 (ea_cons h2 (ea_cons h3 ea_nil))) (spLetterAt_V hW hS hu)
theorem ev_bk {c : Nat} (h : Ev ta σ H (vS [c])) (hc : isLK 6 c) : Ev (tCall spBack [] E (tCons ta tNil)) σ H (vS [bk c]) := by
  rw [← bw_one]
  exact ev_call (ea_cons h ea_nil) (spBack_V (fun d hd => by rw [List.mem_singleton.mp hd]; exact hc) (by show 1 ≤ 1000; decide))
theorem ev_cf {F : Wd} {x y z : Nat} {td : TE} (h0 : Ev td σ H (vS F)) (h1 : Ev ta σ H (vS [x])) (h2 : Ev tb σ H (vS [y])) (h3 : Ev tc σ H (vS [z])) (nd : F.Nodup) (hx : x ∈ F) (hy : y ∈ F) (hz : z ∈ F) (hl : F.length ≤ 100) :
    Ev (tCall spComesFirst [] E (tCons td (tCons ta (tCons tb (tCons tc tNil))))) σ H (.bl (cf F x y z)) := ev_call (ea_cons h0 (ea_cons h1 (ea_cons h2 (ea_cons h3 ea_nil)))) (spComesFirst_V nd hx hy hz hl)
theorem ev_ltT {K : PySem.W.Frag} {c : Addr} {j q : Nat} (h1 : Ev ta σ H (.ref a)) (h2 : Ev tb σ H (.ref b)) (hS : StrT H a i p) (hT : StrT H b j q) : Ev (tOp (rLtT K) ta tb) σ H (.bl (ltS i p j q)) := ev_op h1 h2 fun H1 e Q z =>
  ⟨a, b, [(i : Int), (p : Int)], [(j : Int), (q : Int)], rfl, rfl, st_of (hS.ex e), st_of (hT.ex e), by rw [lex_ltS]; exact z H1 (Ex.refl H1)⟩
/-- a, b = e1, e2 -/
theorem q_par {i j : Nat} {x y : V} {tz : TS} {D : Ends} (h1 : Ev ta σ H x) (h2 : Ev tb σ H y) (k : ∀ H1, Ex H H1 → tz D ((σ.set i (some x)).set j (some y)) H1) : tSeq (tPar i j (tCons ta (tCons tb tNil))) tz D σ H :=
  h1 H (Ex.refl H) _ fun H1 e1 => h2 H1 e1 _ fun H2 e2 => ⟨x, y, rfl, k H2 (e1.trans e2)⟩
end
/-- a call of a def by its facts -/
structure Def (P : Program) (w : World) (K : PySem.W.Frag) (mg : Str → Option Value) (base : Heap) (k : Nat) (x : Str) (ps : List Str) (sp : Sp) (f : Addr) (fd : FuncData) : Prop where
  ok : FnOk P w K mg base CX0 k f fd ps sp
  b : Binds K fd ps []
  g : mg x = some (.ref f)
  kp : PySem.W.keepIn K (.ref f) = true
theorem Def.mono {P : Program} {w : World} {K : PySem.W.Frag} {mg : Str → Option Value} {base : Heap} {j k : Nat} {x : Str} {ps : List Str} {sp : Sp} {f : Addr} {fd : FuncData} (d : Def P w K mg base j x ps sp f fd) (h : j ≤ k) : Def P w K mg base k x ps sp f fd := ⟨d.ok.mono h, d.b, d.g, d.kp⟩
section
variable {X : Cx} {k : Nat} {x : Str} {ps : List Str} {sp : Sp} {f : Addr} {fd : FuncData} {p pos : Pos} {e : Expr} {es : List Expr} {t : TA}
theorem pe_def (d : Def X.prog X.w X.K X.mg X.base k x ps sp f fd) (hr : Room k X.A) (ha : PA X (e :: es) t) (hg : Gl X x := by rfl) (hdb : (x == ("__debug__" : Str)) = false := by decide) (hst : starEach (e :: es) X.env = (false, eval e X.env) :: starEach es X.env := by rfl)
    (hpl : (backTo pos (starEach es X.env)).any (·.1) = false := by rfl) : PE X (.Call (.Name x p) (e :: es) [] pos) (tCall sp [] E0 t) := pe_call d.ok hr hg d.g d.kp d.b .nil pass0 ha hdb hst hpl
end
section
variable {P : Program} {w : World} {K : PySem.W.Frag} {mg : Str → Option Value} {base : Heap} {f : Addr} {fd : FuncData} {k : Nat}
theorem ok_isBeside {f1 f2 f3 : Addr} {fd1 fd2 fd3 : FuncData} (F0 : Fun K "is_beside" "is_beside" sIsBeside f fd) (ml : mg "len" = none) (ms : mg "set" = none) (dB : Def P w K mg base (k + 2) "back" ["word"] spBack f1 fd1) (dA : Def P w K mg base (k + 2) "letter_at" ["ways", "strand", "step"] spLetterAt f2 fd2)
    (dC : Def P w K mg base (k + 2) "comes_first" ["surface", "begin", "one", "other"] spComesFirst f3 fd3) : FnOk P w K mg base CX0 (k + 3) f fd ["surface", "ways", "one", "other"] spIsBeside := by
  refine F0.ok scIsBeside (fun vs H Q E h => ?_) (fun cdv A outer s H vs Q E hr h => ?_)
  · obtain ⟨a, b, c, F, n, W, i, p, j, q, u, v, rfl, _⟩ := h
    rfl
  · obtain ⟨a, b, c, F, n, W, i, p, j, q, u, v, rfl, L, z⟩ := h
    refine ⟨_, pss_cons (ps_par (i := 4) (j := 5) (by rfl) scIsBeside.nd rfl rfl (by decide) rfl rfl (pa_cons (pe_def dB hr (pa_cons (pe_def dA hr (pa_cons (pv 1) (pa_cons (pv 2) (pa_cons pe_int pa_nil)))) pa_nil)) (pa_cons (pe_def dA hr (pa_cons (pv 1) (pa_cons (pv 2) (pa_cons pe_int pa_nil)))) pa_nil)) (by rfl))
      (pss_cons (ps_par (i := 6) (j := 7) (by rfl) scIsBeside.nd rfl rfl (by decide) rfl rfl (pa_cons (pe_def dB hr (pa_cons (pe_def dA hr (pa_cons (pv 1) (pa_cons (pv 3) (pa_cons pe_int pa_nil)))) pa_nil)) (pa_cons (pe_def dA hr (pa_cons (pv 1) (pa_cons (pv 3) (pa_cons pe_int pa_nil)))) pa_nil)) (by rfl))
      (pss_cons (ps_if (PW.pt (pw_or (pt_not (pt_cmpR (op_ltT hr.units0) (pv 2) (pv 3) (nomark _))) (pw_or1 (pt_cmpR op_lt (pe_lenSetS (by rfl) ml (by rfl) ms (pe_lst (pa_cons (pv 4) (pa_cons (pv 5) (pa_cons (pv 6) (pa_cons (pv 7) pa_nil)))))) pe_int (nomark _))))) (pss_one (ps_ret pe_bl)) pss_nil)
      (pss_one (ps_ret (pe_cmpR op_ne (pe_def dC hr (pa_cons (pv 0) (pa_cons (pv 4) (pa_cons (pv 6) (pa_cons (pv 5) pa_nil))))) (pe_def dC hr (pa_cons (pv 0) (pa_cons (pv 4) (pa_cons (pv 7) (pa_cons (pv 5) pa_nil))))) (nomark _)))))), ?_⟩
    refine q_par (ev_bk (ev_at (ev_var rfl) (ev_var rfl) ev_c L.ways L.s1 L.w1) (L.sf.six' (L.a1 _))) (ev_at (ev_var rfl) (ev_var rfl) ev_c L.ways L.s1 L.w1) fun H1 e1 => ?_
    have L1 := L.ex e1
    refine q_par (ev_bk (ev_at (ev_var rfl) (ev_var rfl) ev_c L1.ways L1.s2 L1.w2) (L.sf.six' (L.a2 _))) (ev_at (ev_var rfl) (ev_var rfl) ev_c L1.ways L1.s2 L1.w2) fun H2 e2 => ?_
    have L2' := L1.ex e2
    rw [Int.add_zero, Int.add_zero]
    refine q_when (b := !ltS i p j q || !four (bk (atw u p)) (atw u ((p : Int) + 1)) (bk (atw v q)) (atw v ((q : Int) + 1))) (et_or (et_not (et_test (ev_ltT (c := c) (ev_var rfl) (ev_var rfl) L2'.s1 L2'.s2))) fun _ => ?_) (fun hb H3 e3 => ?_) fun hb H3 e3 => ?_
    · refine fun H3 e3 R r => ⟨vS [bk (atw u p)], rfl, vS [atw u ((p : Int) + 1)], rfl, vS [bk (atw v q)], rfl, vS [atw v ((q : Int) + 1)], rfl, by show 4 ≤ sizeLine; decide, fun d hd => ?_⟩
      refine ⟨d, [S [bk (atw u p)], S [atw u ((p : Int) + 1)], S [bk (atw v q)], S [atw v ((q : Int) + 1)]], rfl, sq_of upd_same, by show 4 ≤ 1000; decide, _, _, rfl, rfl, _, rfl, ?_⟩
      have e : decide (((met [S [bk (atw u p)], S [atw u ((p : Int) + 1)], S [bk (atw v q)], S [atw v ((q : Int) + 1)]]).length : Int) < 4) = !four (bk (atw u p)) (atw u ((p : Int) + 1)) (bk (atw v q)) (atw v ((q : Int) + 1)) := by
        have m := met_four (bk (atw u p)) (atw u ((p : Int) + 1)) (bk (atw v q)) (atw v ((q : Int) + 1))
        cases hf : four (bk (atw u p)) (atw u ((p : Int) + 1)) (bk (atw v q)) (atw v ((q : Int) + 1)) with
        | true =>
          rw [hf] at m
          have nlt := fun x => (show False from absurd (m.mp x) (by simp))
          exact decide_eq_false (fun x => nlt (by omega))
        | false =>
          rw [hf] at m
          have lt := m.mpr rfl
          exact decide_eq_true (by omega)
      rw [e]
      exact r _ (Ex.new hd)
    · refine s_ret ev_c fun H4 e4 => ?_
      have e : (ltS i p j q && besC F u v p q) = false := by
        unfold besC
        cases hx : ltS i p j q <;> cases hy : four (bk (atw u p)) (atw u ((p : Int) + 1)) (bk (atw v q)) (atw v ((q : Int) + 1)) <;> simp_all
      rw [e] at z
      exact z H4 (((e1.trans e2).trans e3).trans e4)
    · have L3 := L2'.ex e3
      have hl := L.sf.small
      have nd := L.sf.nd
      refine s_ret (ev_op (ev_cf (ev_var rfl) (ev_var rfl) (ev_var rfl) (ev_var rfl) nd (L.b1 _) (L.b2 _) (L.a1 _) hl) (ev_cf (ev_var rfl) (ev_var rfl) (ev_var rfl) (ev_var rfl) nd (L.b1 _) (L.a2 _) (L.a1 _) hl) (rv_ne rfl)) fun H4 e4 => ?_
      have e : (ltS i p j q && besC F u v p q) = (!decide (V.bl (cf F (bk (atw u p)) (bk (atw v q)) (atw u ((p : Int) + 1))) = V.bl (cf F (bk (atw u p)) (atw v ((q : Int) + 1)) (atw u ((p : Int) + 1))))) := by
        unfold besC crs
        cases hx : ltS i p j q <;> cases hy : four (bk (atw u p)) (atw u ((p : Int) + 1)) (bk (atw v q)) (atw v ((q : Int) + 1)) <;> simp_all
        cases cf F (bk (atw u p)) (bk (atw v q)) (atw u ((p : Int) + 1)) <;> cases cf F (bk (atw u p)) (atw v ((q : Int) + 1)) (atw u ((p : Int) + 1)) <;> rfl
      rw [e] at z
      exact z H4 (((e1.trans e2).trans e3).trans e4)
end
end RW
set_option Elab.async false
set_option linter.all false
set_option maxRecDepth 100000
set_option maxHeartbeats 4000000
namespace RW
open PySem PySem.Spec PyProof.Rows L2 SX Evl

/-- x and y agree at 0, 1 .. below t -/
def agr (x y : Nat → Nat) (t : Nat) : Bool := (List.range t).all fun k => x k == y k
def aloC (F u v : Wd) (p q : Int) (t : Nat) : Bool := agr (fun k => atw u (p + k)) (fun k => atw v (q + k)) t && (!(atw u (p - 1) == atw v (q - 1)) && (!(atw u (p + t) == atw v (q + t)) &&
  (cf F (bk (atw u (p + (t - 1)))) (atw u (p + t)) (atw v (q + t)) == cf F (atw u p) (bk (atw u (p - 1))) (bk (atw v (q - 1))))))
def agaC (F u v : Wd) (p q : Int) (t : Nat) : Bool := agr (fun k => atw u (p + k)) (fun k => bk (atw v (q - k))) t && (!(atw u (p - 1) == bk (atw v (q + 1))) && (!(atw u (p + t) == bk (atw v (q - t))) &&
  (cf F (bk (atw u (p + (t - 1)))) (atw u (p + t)) (bk (atw v (q - t))) == cf F (atw u p) (bk (atw u (p - 1))) (atw v (q + 1)))))
def ltA (i p j q n t : Nat) : Bool := ltS i p j (((q : Int) + (1 - (t : Int))) % (n : Int)).toNat
def spIsAlong : Sp := fun vs H Q _ => ∃ (a b c : Addr) (F : Wd) (n : Nat) (W : List Wd) (i p j q : Nat) (u v : Wd) (t : Nat), vs = [vS F, .ref a, .ref b, .ref c, .int (t : Int)] ∧ LC H a b c F n W i p j q u v ∧ t ≤ u.length + v.length ∧ RetV (.bl (ltS i p j q && aloC F u v p q t)) H Q
def spIsAgainst : Sp := fun vs H Q _ => ∃ (a b c : Addr) (F : Wd) (n : Nat) (W : List Wd) (i p j q : Nat) (u v : Wd) (t : Nat), vs = [vS F, .ref a, .ref b, .ref c, .int (t : Int)] ∧ LC H a b c F n W i p j q u v ∧ t ≤ u.length + v.length ∧ RetV (.bl (ltA i p j q v.length t && agaC F u v p q t)) H Q
theorem spIsAlong_V {H : Hp} {a b c : Addr} {F : Wd} {n : Nat} {W : List Wd} {i p j q : Nat} {u v : Wd} {t : Nat} (h : LC H a b c F n W i p j q u v) (ht : t ≤ u.length + v.length) : SpV spIsAlong [vS F, .ref a, .ref b, .ref c, .int (t : Int)] H (.bl (ltS i p j q && aloC F u v p q t)) :=
  fun H1 e Q z E => ⟨a, b, c, F, n, W, i, p, j, q, u, v, t, rfl, h.ex e, ht, z⟩
theorem spIsAgainst_V {H : Hp} {a b c : Addr} {F : Wd} {n : Nat} {W : List Wd} {i p j q : Nat} {u v : Wd} {t : Nat} (h : LC H a b c F n W i p j q u v) (ht : t ≤ u.length + v.length) : SpV spIsAgainst [vS F, .ref a, .ref b, .ref c, .int (t : Int)] H (.bl (ltA i p j q v.length t && agaC F u v p q t)) :=
  fun H1 e Q z E => ⟨a, b, c, F, n, W, i, p, j, q, u, v, t, rfl, h.ex e, ht, z⟩
theorem vS_eq (a b : Nat) : decide (vS [a] = vS [b]) = (a == b) := by
  rw [Bool.eq_iff_iff, decide_eq_true_eq, beq_iff_eq]
  exact ⟨fun h => S1_inj (V.str.inj h), fun h => by rw [h]⟩
theorem boot_range : bootBuiltins "range" = some (.type "range") := by decide +kernel
section
variable {K : PySem.W.Frag} {σ : L2.St} {H : Hp} {ta tb tc : TE} {a b c : Addr} {W : List Wd} {i p j q : Nat} {st : Int} {u v : Wd} {E : XK}
theorem ev_room (h1 : Ev ta σ H (.ref a)) (h2 : Ev tb σ H (.ref b)) (h3 : Ev tc σ H (.ref c)) (hW : WaysT H a W) (hS : StrT H b i p) (hT : StrT H c j q) (hu : WayAt W i u) (hv : WayAt W j v) :
    Ev (tCall spRoomOf [] E (tCons ta (tCons tb (tCons tc tNil)))) σ H (.int ((u.length + v.length : Nat) : Int)) := ev_call (ea_cons h1 (ea_cons h2 (ea_cons h3 ea_nil))) (spRoomOf_V hW hS hT hu hv)
theorem ev_eqS {x y : Nat} (h1 : Ev ta σ H (vS [x])) (h2 : Ev tb σ H (vS [y])) : Ev (tOp rEq ta tb) σ H (.bl (x == y)) := by
  rw [← vS_eq]
  exact ev_op h1 h2 (rv_eq rfl)
end
section
variable {P : Program} {w : World} {K : PySem.W.Frag} {mg : Str → Option Value} {base : Heap} {f : Addr} {fd : FuncData} {k : Nat}
theorem ok_isAlong {f1 f2 f3 f4 : Addr} {fd1 fd2 fd3 fd4 : FuncData} (F0 : Fun K "is_along" "is_along" sIsAlong f fd) (mr : mg "range" = none) (ma : mg "all" = none) (dB : Def P w K mg base (k + 2) "back" ["word"] spBack f1 fd1) (dA : Def P w K mg base (k + 2) "letter_at" ["ways", "strand", "step"] spLetterAt f2 fd2)
    (dC : Def P w K mg base (k + 2) "comes_first" ["surface", "begin", "one", "other"] spComesFirst f3 fd3) (dR : Def P w K mg base (k + 2) "room_of" ["ways", "one", "other"] spRoomOf f4 fd4) : FnOk P w K mg base CX0 (k + 3) f fd ["surface", "ways", "one", "other", "many"] spIsAlong := by
  refine F0.ok scIsAlong (fun vs H Q E h => ?_) (fun cdv A outer s H vs Q E hr h => ?_)
  · obtain ⟨a, b, c, F, n, W, i, p, j, q, u, v, t, rfl, _⟩ := h
    rfl
  · obtain ⟨a, b, c, F, n, W, i, p, j, q, u, v, t, rfl, L, ht, z⟩ := h
    have hl := L.sf.small
    have nd := L.sf.nd
    have hf1 := L.w1.few
    have hf2 := L.w2.few
    refine ⟨_, pss_cons (ps_if (PW.pt (pw_or (pt_not (pt_cmpR (op_ltT hr.units0) (pv 2) (pv 3) (nomark _))) (pw_or1 (pt_cmpR op_gt (pv 4) (pe_def dR hr (pa_cons (pv 1) (pa_cons (pv 2) (pa_cons (pv 3) pa_nil)))) (nomark _))))) (pss_one (ps_ret pe_bl)) pss_nil)
      (pss_cons (ps_if (pt_not (pt_val (pe_callB (cr_all rfl) (by rfl) ma boot_all (pa_cons (pe_lc (own := [("k", 10)]) (g := gName 10) rfl scIsAlong.nd (pi_range1 rfl mr (pa_cons (pv 4) pa_nil)) (blkOk_by (N := ["surface", "ways", "one", "other", "many", "here", "there", "ahead", "from_one", "from_other", "k"]) (sc := defScope sIsAlong) (by decide +kernel))
          (fun _ _ _ _ _ => pg_name (i := 10) scIsAlong.nd rfl (Or.inl rfl)) (fun _ _ _ _ _ => pts_nil) (fun _ _ _ _ _ => pe_cmpR op_eq (pe_def dA hr (pa_cons (pv 1) (pa_cons (pv 2) (pa_cons (pv 10) pa_nil)))) (pe_def dA hr (pa_cons (pv 1) (pa_cons (pv 3) (pa_cons (pv 10) pa_nil)))) (nomark _))) pa_nil)))) (pss_one (ps_ret pe_bl)) pss_nil)
      (pss_cons (ps_if (pt_cmpR op_eq (pe_def dA hr (pa_cons (pv 1) (pa_cons (pv 2) (pa_cons (pe_un un_neg pe_int) pa_nil)))) (pe_def dA hr (pa_cons (pv 1) (pa_cons (pv 3) (pa_cons (pe_un un_neg pe_int) pa_nil)))) (nomark _)) (pss_one (ps_ret pe_bl)) pss_nil)
      (pss_cons (ps_par (i := 5) (j := 6) (by rfl) scIsAlong.nd rfl rfl (by decide) rfl rfl (pa_cons (pe_def dA hr (pa_cons (pv 1) (pa_cons (pv 2) (pa_cons (pv 4) pa_nil)))) (pa_cons (pe_def dA hr (pa_cons (pv 1) (pa_cons (pv 3) (pa_cons (pv 4) pa_nil)))) pa_nil)) (by rfl))
      (pss_cons (ps_if (pt_cmpR op_eq (pv 5) (pv 6) (nomark _)) (pss_one (ps_ret pe_bl)) pss_nil)
      (pss_cons (ps_set (i := 7) scIsAlong.nd rfl (.inl rfl) (pe_def dC hr (pa_cons (pv 0) (pa_cons (pe_def dB hr (pa_cons (pe_def dA hr (pa_cons (pv 1) (pa_cons (pv 2) (pa_cons (pe_op op_sub (pv 4) pe_int) pa_nil)))) pa_nil)) (pa_cons (pv 5) (pa_cons (pv 6) pa_nil))))))
      (pss_cons (ps_par (i := 8) (j := 9) (by rfl) scIsAlong.nd rfl rfl (by decide) rfl rfl (pa_cons (pe_def dB hr (pa_cons (pe_def dA hr (pa_cons (pv 1) (pa_cons (pv 2) (pa_cons (pe_un un_neg pe_int) pa_nil)))) pa_nil)) (pa_cons (pe_def dB hr (pa_cons (pe_def dA hr (pa_cons (pv 1) (pa_cons (pv 3) (pa_cons (pe_un un_neg pe_int) pa_nil)))) pa_nil)) pa_nil)) (by rfl))
      (pss_one (ps_ret (pe_cmpR op_eq (pv 7) (pe_def dC hr (pa_cons (pv 0) (pa_cons (pe_def dA hr (pa_cons (pv 1) (pa_cons (pv 2) (pa_cons pe_int pa_nil)))) (pa_cons (pv 8) (pa_cons (pv 9) pa_nil))))) (nomark _)))))))))), ?_⟩
    have eR := ev_room (E := E0) (σ := start ["surface", "ways", "one", "other", "many", "here", "there", "ahead", "from_one", "from_other", "k"] [vS F, .ref a, .ref b, .ref c, .int (t : Int)]) (ev_var (i := 1) rfl) (ev_var (i := 2) rfl) (ev_var (i := 3) rfl) L.ways L.s1 L.s2 L.w1 L.w2
    refine q_when (b := !ltS i p j q || false) (et_or (et_not (et_test (ev_ltT (c := c) (ev_var rfl) (ev_var rfl) L.s1 L.s2))) fun _ => et_is (et_test (ev_op (ev_var rfl) eR rv_I0)) (decide_eq_false (by omega))) (fun hb H1 e1 => ?_) fun hb H1 e1 => ?_
    · refine s_ret ev_c fun H4 e4 => ?_
      have e : (ltS i p j q && aloC F u v p q t) = false := by
        cases hx : ltS i p j q <;> simp_all
      rw [e] at z
      exact z H4 (e1.trans e4)
    have hlt : ltS i p j q = true := by
      cases hx : ltS i p j q <;> simp_all
    rw [hlt, Bool.true_and] at z
    have L1 := L.ex e1
    -- all agree
    refine q_when (b := !agr (fun k => atw u (p + k)) (fun k => atw v (q + k)) t) (et_not (et_is (et_B (ev_all (bs := (List.range t).map fun (k : Nat) => atw u ((p : Int) + (k : Int)) == atw v ((q : Int) + (k : Int))) (el_mapR (n := t) _ (ea_cons (ev_var rfl) ea_nil) (by rw [List.length_map, List.length_map, List.length_range]) (by omega) (fun _ => rfl) fun m y H3 e3 hm hy => ?_))) ?_)) (fun hb H2 e2 => ?_) fun hb H2 e2 => ?_
    · have e0 : y = .bl (atw u (p + m) == atw v (q + m)) := by
        rw [List.getElem?_map, List.getElem?_map, List.getElem?_range hm] at hy
        exact (Option.some.inj hy).symm
      subst e0
      have L3 := L1.ex e3
      exact ev_eqS (ev_at (ev_var rfl) (ev_var rfl) (ev_var rfl) L3.ways L3.s1 L3.w1) (ev_at (ev_var rfl) (ev_var rfl) (ev_var rfl) L3.ways L3.s2 L3.w2)
    · unfold agr
      rw [List.all_map]
      rfl
    · refine s_ret ev_c fun H4 e4 => ?_
      have e : aloC F u v p q t = false := by
        unfold aloC
        rw [show agr (fun k => atw u (p + k)) (fun k => atw v (q + k)) t = false by simpa using hb]
        rfl
      rw [e] at z
      exact z H4 ((e1.trans e2).trans e4)
    have hag : agr (fun k => atw u (p + k)) (fun k => atw v (q + k)) t = true := by simpa using hb
    unfold aloC at z
    rw [hag, Bool.true_and] at z
    have L2' := L1.ex e2
    -- the letters ahead
    refine q_when (b := atw u ((p : Int) - 1) == atw v ((q : Int) - 1)) (et_test (ev_eqS (ev_at (st := -1) (ev_var rfl) (ev_var rfl) (ev_un ev_c ru_neg) L2'.ways L2'.s1 L2'.w1) (ev_at (st := -1) (ev_var rfl) (ev_var rfl) (ev_un ev_c ru_neg) L2'.ways L2'.s2 L2'.w2))) (fun hb H3 e3 => ?_) fun hb H3 e3 => ?_
    · refine s_ret ev_c fun H4 e4 => ?_
      rw [hb] at z
      exact z H4 (((e1.trans e2).trans e3).trans e4)
    rw [hb, Bool.not_false, Bool.true_and] at z
    have L3 := L2'.ex e3
    refine q_par (ev_at (ev_var rfl) (ev_var rfl) (ev_var rfl) L3.ways L3.s1 L3.w1) (ev_at (ev_var rfl) (ev_var rfl) (ev_var rfl) L3.ways L3.s2 L3.w2) fun H4 e4 => ?_
    have L4 := L3.ex e4
    -- the letters behind
    refine q_when (b := atw u ((p : Int) + (t : Int)) == atw v ((q : Int) + (t : Int))) (et_test (ev_eqS (ev_var rfl) (ev_var rfl))) (fun hb2 H5 e5 => ?_) fun hb2 H5 e5 => ?_
    · refine s_ret ev_c fun H6 e6 => ?_
      rw [hb2] at z
      exact z H6 (((((e1.trans e2).trans e3).trans e4).trans e5).trans e6)
    rw [hb2, Bool.not_false, Bool.true_and] at z
    have L5 := L4.ex e5
    refine q_asg (ev_cf (ev_var rfl) (ev_bk (ev_at (st := (t : Int) - 1) (ev_var rfl) (ev_var rfl) (ev_op (ev_var rfl) ev_c rv_I0) L5.ways L5.s1 L5.w1) (L.sf.six' (L.a1 _))) (ev_var rfl) (ev_var rfl) nd (L.b1 _) (L.a1 _) (L.a2 _) hl) fun H6 e6 => ?_
    have L6 := L5.ex e6
    refine q_par (ev_bk (ev_at (st := -1) (ev_var rfl) (ev_var rfl) (ev_un ev_c ru_neg) L6.ways L6.s1 L6.w1) (L.sf.six' (L.a1 _))) (ev_bk (ev_at (st := -1) (ev_var rfl) (ev_var rfl) (ev_un ev_c ru_neg) L6.ways L6.s2 L6.w2) (L.sf.six' (L.a2 _))) fun H7 e7 => ?_
    have L7 := L6.ex e7
    refine s_ret (ev_op (ev_var rfl) (ev_cf (ev_var rfl) (ev_at (st := 0) (ev_var rfl) (ev_var rfl) ev_c L7.ways L7.s1 L7.w1) (ev_var rfl) (ev_var rfl) nd (L.a1 _) (L.b1 _) (L.b2 _) hl) (rv_eq rfl)) fun H8 e8 => ?_
    have e : ∀ x y : Bool, decide (V.bl x = V.bl y) = (x == y) := fun x y => by cases x <;> cases y <;> rfl
    rw [e, Int.add_zero]
    exact z H8 (((((((e1.trans e2).trans e3).trans e4).trans e5).trans e6).trans e7).trans e8)
end
end RW
set_option Elab.async false
set_option linter.all false
set_option maxRecDepth 100000
set_option maxHeartbeats 4000000
namespace RW
open PySem PySem.Spec PyProof.Rows L2 SX Evl

section
variable {K : PySem.W.Frag} {σ : L2.St} {H : Hp} {ta tb tc : TE} {a b c : Addr} {W : List Wd} {i p j q : Nat} {st : Int} {u v : Wd} {E : XK}
theorem eu_moved (h1 : Ev ta σ H (.ref a)) (h2 : Ev tb σ H (.ref b)) (h3 : Ev tc σ H (.int st)) (hW : WaysT H a W) (hS : StrT H b i p) (hu : WayAt W i u) :
    EvU (tCall spMoved [] E (tCons ta (tCons tb (tCons tc tNil)))) σ H [.int (i : Int), .int (((((p : Int) + st) % (u.length : Int)).toNat : Nat) : Int)] := fun H1 e Q z =>
  ea_cons h1 (ea_cons h2 (ea_cons h3 ea_nil)) H1 e _ fun H2 e2 => by
    refine ⟨a, b, W, i, p, st, u, rfl, hW.ex (e.trans e2), hS.ex (e.trans e2), hu, fun d G hd eG hG => z d G (fresh_back e2 hd) (e2.trans eG) ?_⟩
    have hp := hu.pos
    rw [Int.toNat_of_nonneg (Int.emod_nonneg _ (by omega))]
    exact hG
end
section
variable {P : Program} {w : World} {K : PySem.W.Frag} {mg : Str → Option Value} {base : Heap} {f : Addr} {fd : FuncData} {k : Nat}
theorem ok_isAgainst {f1 f2 f3 f4 f5 : Addr} {fd1 fd2 fd3 fd4 fd5 : FuncData} (F0 : Fun K "is_against" "is_against" sIsAgainst f fd) (mr : mg "range" = none) (ma : mg "all" = none) (dB : Def P w K mg base (k + 2) "back" ["word"] spBack f1 fd1) (dA : Def P w K mg base (k + 2) "letter_at" ["ways", "strand", "step"] spLetterAt f2 fd2)
    (dC : Def P w K mg base (k + 2) "comes_first" ["surface", "begin", "one", "other"] spComesFirst f3 fd3) (dR : Def P w K mg base (k + 2) "room_of" ["ways", "one", "other"] spRoomOf f4 fd4) (dM : Def P w K mg base (k + 2) "moved" ["ways", "strand", "step"] spMoved f5 fd5) :
    FnOk P w K mg base CX0 (k + 3) f fd ["surface", "ways", "one", "other", "many"] spIsAgainst := by
  refine F0.ok scIsAgainst (fun vs H Q E h => ?_) (fun cdv A outer s H vs Q E hr h => ?_)
  · obtain ⟨a, b, c, F, n, W, i, p, j, q, u, v, t, rfl, _⟩ := h
    rfl
  · obtain ⟨a, b, c, F, n, W, i, p, j, q, u, v, t, rfl, L, ht, z⟩ := h
    have hl := L.sf.small
    have nd := L.sf.nd
    have hf1 := L.w1.few
    have hf2 := L.w2.few
    refine ⟨_, pss_cons (ps_if (PW.pt (pw_or (pt_cmpR op_gt (pv 4) (pe_def dR hr (pa_cons (pv 1) (pa_cons (pv 2) (pa_cons (pv 3) pa_nil)))) (nomark _)) (pw_or1 (pt_not (pt_cmpR (op_ltT hr.units0) (pv 2) (pe_def dM hr (pa_cons (pv 1) (pa_cons (pv 3) (pa_cons (pe_op op_sub pe_int (pv 4)) pa_nil)))) (nomark _)))))) (pss_one (ps_ret pe_bl)) pss_nil)
      (pss_cons (ps_if (pt_not (pt_val (pe_callB (cr_all rfl) (by rfl) ma boot_all (pa_cons (pe_lc (own := [("k", 10)]) (g := gName 10) rfl scIsAgainst.nd (pi_range1 rfl mr (pa_cons (pv 4) pa_nil)) (blkOk_by (N := ["surface", "ways", "one", "other", "many", "here", "there", "ahead", "from_one", "from_other", "k"]) (sc := defScope sIsAgainst) (by decide +kernel))
          (fun _ _ _ _ _ => pg_name (i := 10) scIsAgainst.nd rfl (Or.inl rfl)) (fun _ _ _ _ _ => pts_nil) (fun _ _ _ _ _ => pe_cmpR op_eq (pe_def dA hr (pa_cons (pv 1) (pa_cons (pv 2) (pa_cons (pv 10) pa_nil)))) (pe_def dB hr (pa_cons (pe_def dA hr (pa_cons (pv 1) (pa_cons (pv 3) (pa_cons (pe_un un_neg (pv 10)) pa_nil)))) pa_nil)) (nomark _))) pa_nil)))) (pss_one (ps_ret pe_bl)) pss_nil)
      (pss_cons (ps_if (pt_cmpR op_eq (pe_def dA hr (pa_cons (pv 1) (pa_cons (pv 2) (pa_cons (pe_un un_neg pe_int) pa_nil)))) (pe_def dB hr (pa_cons (pe_def dA hr (pa_cons (pv 1) (pa_cons (pv 3) (pa_cons pe_int pa_nil)))) pa_nil)) (nomark _)) (pss_one (ps_ret pe_bl)) pss_nil)
      (pss_cons (ps_par (i := 5) (j := 6) (by rfl) scIsAgainst.nd rfl rfl (by decide) rfl rfl (pa_cons (pe_def dA hr (pa_cons (pv 1) (pa_cons (pv 2) (pa_cons (pv 4) pa_nil)))) (pa_cons (pe_def dB hr (pa_cons (pe_def dA hr (pa_cons (pv 1) (pa_cons (pv 3) (pa_cons (pe_un un_neg (pv 4)) pa_nil)))) pa_nil)) pa_nil)) (by rfl))
      (pss_cons (ps_if (pt_cmpR op_eq (pv 5) (pv 6) (nomark _)) (pss_one (ps_ret pe_bl)) pss_nil)
      (pss_cons (ps_set (i := 7) scIsAgainst.nd rfl (.inl rfl) (pe_def dC hr (pa_cons (pv 0) (pa_cons (pe_def dB hr (pa_cons (pe_def dA hr (pa_cons (pv 1) (pa_cons (pv 2) (pa_cons (pe_op op_sub (pv 4) pe_int) pa_nil)))) pa_nil)) (pa_cons (pv 5) (pa_cons (pv 6) pa_nil))))))
      (pss_cons (ps_par (i := 8) (j := 9) (by rfl) scIsAgainst.nd rfl rfl (by decide) rfl rfl (pa_cons (pe_def dB hr (pa_cons (pe_def dA hr (pa_cons (pv 1) (pa_cons (pv 2) (pa_cons (pe_un un_neg pe_int) pa_nil)))) pa_nil)) (pa_cons (pe_def dA hr (pa_cons (pv 1) (pa_cons (pv 3) (pa_cons pe_int pa_nil)))) pa_nil)) (by rfl))
      (pss_one (ps_ret (pe_cmpR op_eq (pv 7) (pe_def dC hr (pa_cons (pv 0) (pa_cons (pe_def dA hr (pa_cons (pv 1) (pa_cons (pv 2) (pa_cons pe_int pa_nil)))) (pa_cons (pv 8) (pa_cons (pv 9) pa_nil))))) (nomark _)))))))))), ?_⟩
    have eR := ev_room (E := E0) (σ := start ["surface", "ways", "one", "other", "many", "here", "there", "ahead", "from_one", "from_other", "k"] [vS F, .ref a, .ref b, .ref c, .int (t : Int)]) (ev_var (i := 1) rfl) (ev_var (i := 2) rfl) (ev_var (i := 3) rfl) L.ways L.s1 L.s2 L.w1 L.w2
    refine q_when (b := false || !ltA i p j q v.length t) (et_or (et_is (et_test (ev_op (ev_var rfl) eR rv_I0)) (decide_eq_false (by omega))) fun _ => et_not (et_test (ev_opU (ev_var rfl) (eu_moved (st := 1 - (t : Int)) (ev_var rfl) (ev_var rfl) (ev_op ev_c (ev_var rfl) rv_I0) L.ways L.s2 L.w2) fun d G hd eG => ?_))) (fun hb H1 e1 => ?_) fun hb H1 e1 => ?_
    · exact fun G1 e1 R r => ⟨b, d, [(i : Int), (p : Int)], [(j : Int), _], rfl, rfl, st_of ((L.s1.ex eG).ex e1), st_of (e1 d _ hd), by rw [lex_ltS]; exact r G1 (Ex.refl G1)⟩
    · refine s_ret ev_c fun H4 e4 => ?_
      have e : (ltA i p j q v.length t && agaC F u v p q t) = false := by
        cases hx : ltA i p j q v.length t <;> simp_all
      rw [e] at z
      exact z H4 (e1.trans e4)
    have hlt : ltA i p j q v.length t = true := by
      cases hx : ltA i p j q v.length t <;> simp_all
    rw [hlt, Bool.true_and] at z
    have L1 := L.ex e1
    -- all are backs
    refine q_when (b := !agr (fun k => atw u (p + k)) (fun k => bk (atw v (q - k))) t) (et_not (et_is (et_B (ev_all (bs := (List.range t).map fun (k : Nat) => atw u ((p : Int) + (k : Int)) == bk (atw v ((q : Int) - (k : Int)))) (el_mapR (n := t) _ (ea_cons (ev_var rfl) ea_nil) (by rw [List.length_map, List.length_map, List.length_range]) (by omega) (fun _ => rfl) fun m y H3 e3 hm hy => ?_))) ?_)) (fun hb H2 e2 => ?_) fun hb H2 e2 => ?_
    · have e0 : y = .bl (atw u ((p : Int) + (m : Int)) == bk (atw v ((q : Int) - (m : Int)))) := by
        rw [List.getElem?_map, List.getElem?_map, List.getElem?_range hm] at hy
        exact (Option.some.inj hy).symm
      subst e0
      have L3 := L1.ex e3
      exact ev_eqS (ev_at (ev_var rfl) (ev_var rfl) (ev_var rfl) L3.ways L3.s1 L3.w1) (ev_bk (ev_at (st := -(m : Int)) (ev_var rfl) (ev_var rfl) (ev_un (ev_var rfl) ru_neg) L3.ways L3.s2 L3.w2) (L.sf.six' (L.a2 _)))
    · unfold agr
      rw [List.all_map]
      rfl
    · refine s_ret ev_c fun H4 e4 => ?_
      have e : agaC F u v p q t = false := by
        unfold agaC
        rw [show agr (fun k => atw u (p + k)) (fun k => bk (atw v (q - k))) t = false by simpa using hb]
        rfl
      rw [e] at z
      exact z H4 ((e1.trans e2).trans e4)
    have hag : agr (fun k => atw u (p + k)) (fun k => bk (atw v (q - k))) t = true := by simpa using hb
    unfold agaC at z
    rw [hag, Bool.true_and] at z
    have L2' := L1.ex e2
    -- the letters ahead
    refine q_when (b := atw u ((p : Int) - 1) == bk (atw v ((q : Int) + 1))) (et_test (ev_eqS (ev_at (st := -1) (ev_var rfl) (ev_var rfl) (ev_un ev_c ru_neg) L2'.ways L2'.s1 L2'.w1) (ev_bk (ev_at (st := 1) (ev_var rfl) (ev_var rfl) ev_c L2'.ways L2'.s2 L2'.w2) (L.sf.six' (L.a2 _))))) (fun hb H3 e3 => ?_) fun hb H3 e3 => ?_
    · refine s_ret ev_c fun H4 e4 => ?_
      rw [hb] at z
      exact z H4 (((e1.trans e2).trans e3).trans e4)
    rw [hb, Bool.not_false, Bool.true_and] at z
    have L3 := L2'.ex e3
    refine q_par (ev_at (ev_var rfl) (ev_var rfl) (ev_var rfl) L3.ways L3.s1 L3.w1) (ev_bk (ev_at (st := -(t : Int)) (ev_var rfl) (ev_var rfl) (ev_un (ev_var rfl) ru_neg) L3.ways L3.s2 L3.w2) (L.sf.six' (L.a2 _))) fun H4 e4 => ?_
    have L4 := L3.ex e4
    -- the letters behind
    refine q_when (b := atw u ((p : Int) + (t : Int)) == bk (atw v ((q : Int) - (t : Int)))) (et_test (ev_eqS (ev_var rfl) (ev_var rfl))) (fun hb2 H5 e5 => ?_) fun hb2 H5 e5 => ?_
    · refine s_ret ev_c fun H6 e6 => ?_
      rw [hb2] at z
      exact z H6 (((((e1.trans e2).trans e3).trans e4).trans e5).trans e6)
    rw [hb2, Bool.not_false, Bool.true_and] at z
    have L5 := L4.ex e5
    refine q_asg (ev_cf (ev_var rfl) (ev_bk (ev_at (st := (t : Int) - 1) (ev_var rfl) (ev_var rfl) (ev_op (ev_var rfl) ev_c rv_I0) L5.ways L5.s1 L5.w1) (L.sf.six' (L.a1 _))) (ev_var rfl) (ev_var rfl) nd (L.b1 _) (L.a1 _) (L.b2 _) hl) fun H6 e6 => ?_
    have L6 := L5.ex e6
    refine q_par (ev_bk (ev_at (st := -1) (ev_var rfl) (ev_var rfl) (ev_un ev_c ru_neg) L6.ways L6.s1 L6.w1) (L.sf.six' (L.a1 _))) (ev_at (st := 1) (ev_var rfl) (ev_var rfl) ev_c L6.ways L6.s2 L6.w2) fun H7 e7 => ?_
    have L7 := L6.ex e7
    refine s_ret (ev_op (ev_var rfl) (ev_cf (ev_var rfl) (ev_at (st := 0) (ev_var rfl) (ev_var rfl) ev_c L7.ways L7.s1 L7.w1) (ev_var rfl) (ev_var rfl) nd (L.a1 _) (L.b1 _) (L.a2 _) hl) (rv_eq rfl)) fun H8 e8 => ?_
    have e : ∀ x y : Bool, decide (V.bl x = V.bl y) = (x == y) := fun x y => by cases x <;> cases y <;> rfl
    rw [e, Int.add_zero]
    exact z H8 (((((((e1.trans e2).trans e3).trans e4).trans e5).trans e6).trans e7).trans e8)
end
end RW
set_option Elab.async false
set_option linter.all false
set_option maxRecDepth 100000
set_option maxHeartbeats 4000000
namespace RW
open PySem PySem.Spec PyProof.Rows L2 SX Evl

/-- from k on, the first place where f fails, at most n further -/
def runL (f : Nat → Bool) : Nat → Nat → Nat
  | 0, k => k
  | n + 1, k => if f k = true then runL f n (k + 1) else k
theorem runL_le (f : Nat → Bool) : ∀ n k, runL f n k ≤ k + n
  | 0, k => Nat.le_refl _
  | n + 1, k => by
    unfold runL
    split
    · have := runL_le f n (k + 1)
      omega
    · omega
def fA (u v : Wd) (p q : Int) (k : Nat) : Bool := atw u (p + k) == atw v (q + k)
def fG (u v : Wd) (p q : Int) (k : Nat) : Bool := atw u (p + k) == bk (atw v (q - k))
def runA (u v : Wd) (p q : Int) : Nat := runL (fA u v p q) (u.length + v.length) 0
def runG (u v : Wd) (p q : Int) : Nat := runL (fG u v p q) (u.length + v.length) 0
def spRun (g : Wd → Wd → Int → Int → Nat) : Sp := fun vs H Q _ => ∃ (a b c : Addr) (F : Wd) (n : Nat) (W : List Wd) (i p j q : Nat) (u v : Wd), vs = [.ref a, .ref b, .ref c] ∧ LC H a b c F n W i p j q u v ∧ RetV (.int ((g u v p q : Nat) : Int)) H Q
theorem spRun_V {g : Wd → Wd → Int → Int → Nat} {H : Hp} {a b c : Addr} {F : Wd} {n : Nat} {W : List Wd} {i p j q : Nat} {u v : Wd} (h : LC H a b c F n W i p j q u v) : SpV (spRun g) [.ref a, .ref b, .ref c] H (.int ((g u v p q : Nat) : Int)) :=
  fun H1 e Q z E => ⟨a, b, c, F, n, W, i, p, j, q, u, v, rfl, h.ex e, z⟩
section
variable {P : Program} {w : World} {K : PySem.W.Frag} {mg : Str → Option Value} {base : Heap} {f : Addr} {fd : FuncData} {k : Nat}
theorem ok_runAlong {f2 f4 : Addr} {fd2 fd4 : FuncData} (F0 : Fun K "run_along" "run_along" sRunAlong f fd) (dA : Def P w K mg base (k + 2) "letter_at" ["ways", "strand", "step"] spLetterAt f2 fd2) (dR : Def P w K mg base (k + 2) "room_of" ["ways", "one", "other"] spRoomOf f4 fd4) :
    FnOk P w K mg base CX0 (k + 3) f fd ["ways", "one", "other"] (spRun runA) := by
  refine F0.ok scRunAlong (fun vs H Q E h => ?_) (fun cdv A outer s H vs Q E hr h => ?_)
  · obtain ⟨a, b, c, F, n, W, i, p, j, q, u, v, rfl, _⟩ := h
    rfl
  · obtain ⟨a, b, c, F, n, W, i, p, j, q, u, v, rfl, L, z⟩ := h
    refine ⟨_, pss_cons (ps_set (i := 3) scRunAlong.nd rfl (.inl rfl) pe_int)
      (pss_cons (ps_while PassesOwn.never (PW.pt (pw_and (pt_cmpR op_lt (pv 3) (pe_def dR hr (pa_cons (pv 0) (pa_cons (pv 1) (pa_cons (pv 2) pa_nil)))) (nomark _)) (pw_and1 (pt_cmpR op_eq (pe_def dA hr (pa_cons (pv 0) (pa_cons (pv 1) (pa_cons (pv 3) pa_nil)))) (pe_def dA hr (pa_cons (pv 0) (pa_cons (pv 2) (pa_cons (pv 3) pa_nil)))) (nomark _)))))
        (pss_one (ps_set (i := 3) scRunAlong.nd rfl (.inl rfl) (pe_op op_add (pv 3) pe_int))))
      (pss_one (ps_ret (pv 3)))), ?_⟩
    refine q_asg ev_c fun H1 e1 => ?_
    refine q_while (fun m σ' H' => ∃ k : Nat, σ' = [some (.ref a), some (.ref b), some (.ref c), some (.int (k : Int))] ∧ k + m = u.length + v.length ∧ runL (fA u v p q) m k = runA u v p q ∧ Ex H H') (u.length + v.length) ⟨0, rfl, by omega, rfl, e1⟩ fun m σ' H' hw => ?_
    obtain ⟨k, rfl, hk, hrun, eH⟩ := hw
    have L1 := L.ex eH
    refine ⟨decide ((k : Int) < ((u.length + v.length : Nat) : Int)) && fA u v p q k, et_and (et_test (ev_op (ev_var rfl) (ev_room (ev_var rfl) (ev_var rfl) (ev_var rfl) L1.ways L1.s1 L1.s2 L1.w1 L1.w2) rv_I0)) fun _ => et_test (ev_eqS (ev_at (ev_var rfl) (ev_var rfl) (ev_var rfl) L1.ways L1.s1 L1.w1) (ev_at (ev_var rfl) (ev_var rfl) (ev_var rfl) L1.ways L1.s2 L1.w2)), fun hb H2 e2 => ?_, fun hb H2 e2 => ?_⟩
    · rw [Bool.and_eq_true, decide_eq_true_eq] at hb
      obtain ⟨m', rfl⟩ : ∃ m', m = m' + 1 := ⟨m - 1, by omega⟩
      refine ⟨fun σ2 H3 => ∃ m2, m2 < m' + 1 ∧ ∃ k : Nat, σ2 = [some (.ref a), some (.ref b), some (.ref c), some (.int (k : Int))] ∧ k + m2 = u.length + v.length ∧ runL (fA u v p q) m2 k = runA u v p q ∧ Ex H H3, fun _ _ h => h, ?_⟩
      refine s_asg (ev_op (ev_var rfl) ev_c rv_I0) fun H3 e3 => ⟨m', by omega, k + 1, by rw [Int.natCast_add]; rfl, by omega, ?_, (eH.trans e2).trans e3⟩
      rw [← hrun]
      show _ = if fA u v p q k = true then runL (fA u v p q) m' (k + 1) else k
      rw [if_pos hb.2]
    · have hval : k = runA u v p q := by
        rw [← hrun]
        cases m with
        | zero => rfl
        | succ m' =>
          show _ = if fA u v p q k = true then runL (fA u v p q) m' (k + 1) else k
          rw [decide_eq_true (by omega), Bool.true_and] at hb
          rw [if_neg (by rw [hb]; exact Bool.false_ne_true)]
      rw [hval]
      exact s_ret (ev_var rfl) fun H3 e3 => z H3 ((eH.trans e2).trans e3)
theorem ok_runAgainst {f1 f2 f4 : Addr} {fd1 fd2 fd4 : FuncData} (F0 : Fun K "run_against" "run_against" sRunAgainst f fd) (dB : Def P w K mg base (k + 2) "back" ["word"] spBack f1 fd1) (dA : Def P w K mg base (k + 2) "letter_at" ["ways", "strand", "step"] spLetterAt f2 fd2) (dR : Def P w K mg base (k + 2) "room_of" ["ways", "one", "other"] spRoomOf f4 fd4) :
    FnOk P w K mg base CX0 (k + 3) f fd ["ways", "one", "other"] (spRun runG) := by
  refine F0.ok scRunAgainst (fun vs H Q E h => ?_) (fun cdv A outer s H vs Q E hr h => ?_)
  · obtain ⟨a, b, c, F, n, W, i, p, j, q, u, v, rfl, _⟩ := h
    rfl
  · obtain ⟨a, b, c, F, n, W, i, p, j, q, u, v, rfl, L, z⟩ := h
    refine ⟨_, pss_cons (ps_set (i := 3) scRunAgainst.nd rfl (.inl rfl) pe_int)
      (pss_cons (ps_while PassesOwn.never (PW.pt (pw_and (pt_cmpR op_lt (pv 3) (pe_def dR hr (pa_cons (pv 0) (pa_cons (pv 1) (pa_cons (pv 2) pa_nil)))) (nomark _)) (pw_and1 (pt_cmpR op_eq (pe_def dA hr (pa_cons (pv 0) (pa_cons (pv 1) (pa_cons (pv 3) pa_nil)))) (pe_def dB hr (pa_cons (pe_def dA hr (pa_cons (pv 0) (pa_cons (pv 2) (pa_cons (pe_un un_neg (pv 3)) pa_nil)))) pa_nil)) (nomark _)))))
        (pss_one (ps_set (i := 3) scRunAgainst.nd rfl (.inl rfl) (pe_op op_add (pv 3) pe_int))))
      (pss_one (ps_ret (pv 3)))), ?_⟩
    refine q_asg ev_c fun H1 e1 => ?_
    refine q_while (fun m σ' H' => ∃ k : Nat, σ' = [some (.ref a), some (.ref b), some (.ref c), some (.int (k : Int))] ∧ k + m = u.length + v.length ∧ runL (fG u v p q) m k = runG u v p q ∧ Ex H H') (u.length + v.length) ⟨0, rfl, by omega, rfl, e1⟩ fun m σ' H' hw => ?_
    obtain ⟨k, rfl, hk, hrun, eH⟩ := hw
    have L1 := L.ex eH
    refine ⟨decide ((k : Int) < ((u.length + v.length : Nat) : Int)) && fG u v p q k, et_and (et_test (ev_op (ev_var rfl) (ev_room (ev_var rfl) (ev_var rfl) (ev_var rfl) L1.ways L1.s1 L1.s2 L1.w1 L1.w2) rv_I0)) fun _ => et_test (ev_eqS (ev_at (ev_var rfl) (ev_var rfl) (ev_var rfl) L1.ways L1.s1 L1.w1) (ev_bk (ev_at (st := -(k : Int)) (ev_var rfl) (ev_var rfl) (ev_un (ev_var rfl) ru_neg) L1.ways L1.s2 L1.w2) (L.sf.six' (L.a2 _)))), fun hb H2 e2 => ?_, fun hb H2 e2 => ?_⟩
    · rw [Bool.and_eq_true, decide_eq_true_eq] at hb
      obtain ⟨m', rfl⟩ : ∃ m', m = m' + 1 := ⟨m - 1, by omega⟩
      refine ⟨fun σ2 H3 => ∃ m2, m2 < m' + 1 ∧ ∃ k : Nat, σ2 = [some (.ref a), some (.ref b), some (.ref c), some (.int (k : Int))] ∧ k + m2 = u.length + v.length ∧ runL (fG u v p q) m2 k = runG u v p q ∧ Ex H H3, fun _ _ h => h, ?_⟩
      refine s_asg (ev_op (ev_var rfl) ev_c rv_I0) fun H3 e3 => ⟨m', by omega, k + 1, by rw [Int.natCast_add]; rfl, by omega, ?_, (eH.trans e2).trans e3⟩
      rw [← hrun]
      show _ = if fG u v p q k = true then runL (fG u v p q) m' (k + 1) else k
      rw [if_pos hb.2]
    · have hval : k = runG u v p q := by
        rw [← hrun]
        cases m with
        | zero => rfl
        | succ m' =>
          show _ = if fG u v p q k = true then runL (fG u v p q) m' (k + 1) else k
          rw [decide_eq_true (by omega), Bool.true_and] at hb
          rw [if_neg (by rw [hb]; exact Bool.false_ne_true)]
      rw [hval]
      exact s_ret (ev_var rfl) fun H3 e3 => z H3 ((eH.trans e2).trans e3)
end
end RW
set_option Elab.async false
set_option linter.all false
set_option maxRecDepth 100000
set_option maxHeartbeats 4000000
namespace RW
open PySem PySem.Spec PyProof.Rows L2 SX Evl

/-! ### data of tuples, as they are tracked -/
mutual
inductive TD (H : Hp) : V → PyData → Prop
  | int (i : Int) : TD H (.int i) (.int i)
  | str (x : Str) : TD H (.str x) (.str x)
  | tup {a : Addr} {xs : List V} {ds : List PyData} (h : H a = some (.tup xs)) (t : TDs H xs ds) : TD H (.ref a) (.tuple ds)
inductive TDs (H : Hp) : List V → List PyData → Prop
  | nil : TDs H [] []
  | cons {x : V} {d : PyData} {xs : List V} {ds : List PyData} (h : TD H x d) (t : TDs H xs ds) : TDs H (x :: xs) (d :: ds)
end
mutual
theorem TD.mono {H H' : Hp} (k : ∀ a xs, H a = some (.tup xs) → H' a = some (.tup xs)) : ∀ (d : PyData) (x : V), TD H x d → TD H' x d
  | .none, _, h => by cases h
  | .bool _, _, h => by cases h
  | .int _, _, h => by cases h; exact .int _
  | .str _, _, h => by cases h; exact .str _
  | .list _, _, h => by cases h
  | .dict _, _, h => by cases h
  | .tuple ds, _, h => by
    cases h with
    | tup e t => exact .tup (k _ _ e) (TDs.mono k ds _ t)
theorem TDs.mono {H H' : Hp} (k : ∀ a xs, H a = some (.tup xs) → H' a = some (.tup xs)) : ∀ (ds : List PyData) (xs : List V), TDs H xs ds → TDs H' xs ds
  | [], _, h => by cases h; exact .nil
  | d :: ds, _, h => by
    cases h with
    | cons a t => exact .cons (TD.mono k d _ a) (TDs.mono k ds _ t)
end
mutual
theorem TD.uniq {H : Hp} : ∀ (d d' : PyData) (x : V), TD H x d → TD H x d' → d = d'
  | .none, _, _, h, _ => by cases h
  | .bool _, _, _, h, _ => by cases h
  | .int _, _, _, h, h' => by cases h; cases h'; rfl
  | .str _, _, _, h, h' => by cases h; cases h'; rfl
  | .list _, _, _, h, _ => by cases h
  | .dict _, _, _, h, _ => by cases h
  | .tuple ds, _, _, h, h' => by
    cases h with
    | tup e t =>
      cases h' with
      | tup e' t' =>
        rw [e] at e'
        cases e'
        rw [TDs.uniq ds _ _ t t']
theorem TDs.uniq {H : Hp} : ∀ (ds ds' : List PyData) (xs : List V), TDs H xs ds → TDs H xs ds' → ds = ds'
  | [], _, _, h, h' => by cases h; cases h'; rfl
  | d :: ds, _, _, h, h' => by
    cases h with
    | cons a t =>
      cases h' with
      | cons a' t' => rw [TD.uniq d _ _ a a', TDs.uniq ds _ _ t t']
end
mutual
theorem TD.dp {K : PySem.W.Frag} {H : Hp} : ∀ (d : PyData) (x : V), TD H x d → Dp K H x d
  | .none, _, h => by cases h
  | .bool _, _, h => by cases h
  | .int _, _, h => by cases h; exact .int _
  | .str _, _, h => by cases h; exact .str _
  | .list _, _, h => by cases h
  | .dict _, _, h => by cases h
  | .tuple ds, _, h => by
    cases h with
    | tup e t => exact .tup (st_of e) (TDs.dp ds _ t)
theorem TDs.dp {K : PySem.W.Frag} {H : Hp} : ∀ (ds : List PyData) (xs : List V), TDs H xs ds → DpAll K H xs ds
  | [], _, h => by cases h; exact .nil
  | d :: ds, _, h => by
    cases h with
    | cons a t => exact .cons (TD.dp d _ a) (TDs.dp ds _ t)
end
theorem TD.ex {H H' : Hp} {x : V} {d : PyData} (h : TD H x d) (e : Ex H H') : TD H' x d := TD.mono (fun a xs q => e a _ q) d x h
theorem TDs.ex {H H' : Hp} {xs : List V} {ds : List PyData} (h : TDs H xs ds) (e : Ex H H') : TDs H' xs ds := TDs.mono (fun a xs q => e a _ q) ds xs h
theorem TDs.upd {H : Hp} {l : Addr} {ys zs : List V} {xs : List V} {ds : List PyData} (h : TDs H xs ds) (hl : H l = some (.lst ys)) : TDs (upd H l (.lst zs)) xs ds :=
  TDs.mono (fun a ts q => by
    rw [upd_ne (fun z => by subst z; rw [hl] at q; cases q)]
    exact q) ds xs h
theorem TDs.append {H : Hp} : ∀ {xs ys : List V} {ds es : List PyData}, TDs H xs ds → TDs H ys es → TDs H (xs ++ ys) (ds ++ es)
  | [], _, _, _, h, h' => by cases h; exact h'
  | x :: xs, _, _, _, h, h' => by
    cases h with
    | cons a t => exact .cons a (TDs.append t h')
theorem TDs.length {H : Hp} : ∀ {xs : List V} {ds : List PyData}, TDs H xs ds → xs.length = ds.length
  | [], _, h => by cases h; rfl
  | x :: xs, _, h => by
    cases h with
    | cons a t => rw [List.length_cons, List.length_cons, TDs.length t]
theorem TDs.mem {H : Hp} : ∀ {xs : List V} {ds : List PyData} {x : V}, TDs H xs ds → x ∈ xs → ∃ d ∈ ds, TD H x d
  | [], _, _, _, h => by cases h
  | y :: xs, _, x, h, hm => by
    cases h with
    | cons a t =>
      rcases List.mem_cons.mp hm with e | e
      · subst e
        exact ⟨_, List.mem_cons_self, a⟩
      · obtain ⟨d, hd, q⟩ := TDs.mem t e
        exact ⟨d, List.mem_cons_of_mem _ hd, q⟩
/-- what a tracked tuple is read as -/
noncomputable def encT (H : Hp) (x : V) : PyData := open Classical in if h : ∃ d, TD H x d then h.choose else .none
theorem encT_eq {H : Hp} {x : V} {d : PyData} (h : TD H x d) : encT H x = d := by
  unfold encT
  have q : ∃ d, TD H x d := ⟨d, h⟩
  rw [dif_pos q]
  exact TD.uniq _ _ _ q.choose_spec h
theorem TDs.map {H : Hp} : ∀ {xs : List V} {ds : List PyData}, TDs H xs ds → xs.map (encT H) = ds
  | [], _, h => by cases h; rfl
  | x :: xs, _, h => by
    cases h with
    | cons a t => rw [List.map_cons, encT_eq a, TDs.map t]
theorem TDs.of_each {H : Hp} : ∀ {xs : List V}, (∀ x ∈ xs, TD H x (encT H x)) → TDs H xs (xs.map (encT H))
  | [], _ => .nil
  | x :: xs, h => .cons (h x List.mem_cons_self) (TDs.of_each fun y hy => h y (List.mem_cons_of_mem _ hy))
/-- data in order -/
def sortD (ds : List PyData) : List PyData := ds.mergeSort (PySem.W.dataLe false id)
theorem TDs.sorted {H : Hp} {xs : List V} {ds : List PyData} (h : TDs H xs ds) : TDs H (sortV (encT H) xs) (sortD ds) := by
  have e : (sortV (encT H) xs).map (encT H) = sortD ds := by
    unfold sortV sortD
    have z := PySem.W.sort_maps (r := PySem.W.dataLe false (encT H)) (s := PySem.W.dataLe false id) (encT H) (l := xs) (fun _ _ _ _ => rfl)
    rw [z, TDs.map h]
  rw [← e]
  refine TDs.of_each fun x hx => ?_
  have hx' : x ∈ xs := (List.mergeSort_perm xs _).mem_iff.mp hx
  obtain ⟨d, _, q⟩ := TDs.mem h hx'
  rw [encT_eq q]
  exact q
/-- a promise's end: a new list of such -/
def RetTD (ds : List PyData) (H : Hp) (Q : VK) : Prop := ∀ r H2, H r = none → Ex H H2 → (∃ xs, H2 r = some (.lst xs) ∧ TDs H2 xs ds) → Q (.ref r) H2

/-! ### is_link -/
inductive Lk
  | bes | alo (t : Nat) | aga (t : Nat)
def Lk.vals (b c : Addr) : Lk → List V
  | .bes => [.str "beside", .ref b, .ref c]
  | .alo t => [.str "along", .ref b, .ref c, .int (t : Int)]
  | .aga t => [.str "against", .ref b, .ref c, .int (t : Int)]
def sD (i p : Nat) : PyData := .tuple [.int (i : Int), .int (p : Int)]
def Lk.enc (i p j q : Nat) : Lk → PyData
  | .bes => .tuple [.str "beside", sD i p, sD j q]
  | .alo t => .tuple [.str "along", sD i p, sD j q, .int (t : Int)]
  | .aga t => .tuple [.str "against", sD i p, sD j q, .int (t : Int)]
def Lk.ok (F u v : Wd) (i p j q : Nat) : Lk → Bool
  | .bes => ltS i p j q && besC F u v p q
  | .alo t => decide (0 < t) && (ltS i p j q && aloC F u v p q t)
  | .aga t => decide (0 < t) && (ltA i p j q v.length t && agaC F u v p q t)
def Lk.few (r : Nat) : Lk → Prop
  | .bes => True
  | .alo t => t ≤ r
  | .aga t => t ≤ r
def spIsLink : Sp := fun vs H Q _ => ∃ (a b c d : Addr) (F : Wd) (n : Nat) (W : List Wd) (i p j q : Nat) (u v : Wd) (l : Lk), vs = [vS F, .ref a, .ref d] ∧ LC H a b c F n W i p j q u v ∧ H d = some (.tup (l.vals b c)) ∧ l.few (u.length + v.length) ∧ RetV (.bl (l.ok F u v i p j q)) H Q
theorem spIsLink_V {H : Hp} {a b c d : Addr} {F : Wd} {n : Nat} {W : List Wd} {i p j q : Nat} {u v : Wd} {l : Lk} (h : LC H a b c F n W i p j q u v) (hd : H d = some (.tup (l.vals b c))) (hl : l.few (u.length + v.length)) : SpV spIsLink [vS F, .ref a, .ref d] H (.bl (l.ok F u v i p j q)) :=
  fun H1 e Q z E => ⟨a, b, c, d, F, n, W, i, p, j, q, u, v, l, rfl, h.ex e, e d _ hd, hl, z⟩
section
variable {K : PySem.W.Frag} {σ : L2.St} {H : Hp} {ta tb tc td te : TE} {a b c d : Addr} {F : Wd} {n : Nat} {W : List Wd} {i p j q : Nat} {u v : Wd} {E : XK} {xs : List V} {x : V} {k : Nat}
theorem ev_ix {m : Int} (h : Ev ta σ H (.ref d)) (hd : H d = some (.tup xs)) (hx : atI xs m = some x) : Ev (tOp (rIxT K) ta (tC (.int m))) σ H x := ev_op h ev_c (rv_ixT (st_of hd) hx)
theorem ev_lenT (h : Ev ta σ H (.ref d)) (hd : H d = some (.tup xs)) : Ev (tCB (fun vs H Q => ∃ p ys, vs = [.ref p] ∧ (SqL K H p ys ∨ SqT K H p ys) ∧ Q (.int (ys.length : Nat)) H) (tCons ta tNil)) σ H (.int ((xs.length : Nat) : Int)) := fun H1 e Q z =>
  h H1 e _ fun H2 e2 => ⟨d, xs, rfl, .inr (st_of (e2 d _ (e d _ hd))), z H2 e2⟩
end
section
variable {P : Program} {w : World} {K : PySem.W.Frag} {mg : Str → Option Value} {base : Heap} {f : Addr} {fd : FuncData} {k : Nat}
theorem ok_isLink {f1 f2 f3 f4 f5 : Addr} {fd1 fd2 fd3 fd4 fd5 : FuncData} (F0 : Fun K "is_link" "is_link" sIsLink f fd) (mi : mg "isinstance" = none) (mt : mg "tuple" = none) (ml : mg "len" = none) (ms : mg "str" = none)
    (dS : Def P w K mg base (k + 2) "is_strand" ["ways", "thing"] spIsStrand f1 fd1) (dB : Def P w K mg base (k + 2) "is_beside" ["surface", "ways", "one", "other"] spIsBeside f2 fd2) (dL : Def P w K mg base (k + 2) "is_long" ["thing"] spIsLong f3 fd3)
    (dA : Def P w K mg base (k + 2) "is_along" ["surface", "ways", "one", "other", "many"] spIsAlong f4 fd4) (dG : Def P w K mg base (k + 2) "is_against" ["surface", "ways", "one", "other", "many"] spIsAgainst f5 fd5) : FnOk P w K mg base CX0 (k + 3) f fd ["surface", "ways", "thing"] spIsLink := by
  refine F0.ok scIsLink (fun vs H Q E h => ?_) (fun cdv A outer s H vs Q E hr h => ?_)
  · obtain ⟨a, b, c, d, F, n, W, i, p, j, q, u, v, l, rfl, _⟩ := h
    rfl
  · obtain ⟨a, b, c, d, F, n, W, i, p, j, q, u, v, l, rfl, L, hd, hf, z⟩ := h
    refine ⟨_, pss_cons (ps_if (PW.pt (pw_or (pt_not (pt_val (pe_callB call_isi (by rfl) mi boot_isinstance (pa_cons (pv 2) (pa_cons (pe_bltn (v := .ty "tuple") (by rfl) mt boot_tup rfl) pa_nil)))))
        (pw_or (pt_cmpR op_lt (pe_callB call_len_seq (by rfl) ml PySem.boot_len (pa_cons (pv 2) pa_nil)) pe_int (nomark _)) (pw_or1 (pt_not (pt_val (pe_callB call_isi (by rfl) mi boot_isinstance (pa_cons (pe_ix ix_tup (pv 2) pe_int (fun _ _ => rfl)) (pa_cons (pe_bltn (v := .ty "str") (by rfl) ms boot_str rfl) pa_nil))))))))) (pss_one (ps_ret pe_bl)) pss_nil)
      (pss_cons (ps_if (PW.pt (pw_or (pt_not (pt_val (pe_def dS hr (pa_cons (pv 1) (pa_cons (pe_ix ix_tup (pv 2) pe_int (fun _ _ => rfl)) pa_nil))))) (pw_or1 (pt_not (pt_val (pe_def dS hr (pa_cons (pv 1) (pa_cons (pe_ix ix_tup (pv 2) pe_int (fun _ _ => rfl)) pa_nil)))))))) (pss_one (ps_ret pe_bl)) pss_nil)
      (pss_cons (ps_if (pt_cmpR op_eq (pe_ix ix_tup (pv 2) pe_int (fun _ _ => rfl)) pe_str (nomark _)) (pss_one (ps_ret (pe_and (pe_cmpR op_eq (pe_callB call_len_seq (by rfl) ml PySem.boot_len (pa_cons (pv 2) pa_nil)) pe_int (nomark _))
          (pe_one (pe_def dB hr (pa_cons (pv 0) (pa_cons (pv 1) (pa_cons (pe_ix ix_tup (pv 2) pe_int (fun _ _ => rfl)) (pa_cons (pe_ix ix_tup (pv 2) pe_int (fun _ _ => rfl)) pa_nil))))))))) pss_nil)
      (pss_cons (ps_if (PW.pt (pw_or (pt_cmpR op_ne (pe_callB call_len_seq (by rfl) ml PySem.boot_len (pa_cons (pv 2) pa_nil)) pe_int (nomark _)) (pw_or1 (pt_not (pt_val (pe_def dL hr (pa_cons (pe_ix ix_tup (pv 2) pe_int (fun _ _ => rfl)) pa_nil))))))) (pss_one (ps_ret pe_bl)) pss_nil)
      (pss_cons (ps_if (pt_cmpR op_eq (pe_ix ix_tup (pv 2) pe_int (fun _ _ => rfl)) pe_str (nomark _)) (pss_one (ps_ret (pe_def dA hr (pa_cons (pv 0) (pa_cons (pv 1) (pa_cons (pe_ix ix_tup (pv 2) pe_int (fun _ _ => rfl)) (pa_cons (pe_ix ix_tup (pv 2) pe_int (fun _ _ => rfl)) (pa_cons (pe_ix ix_tup (pv 2) pe_int (fun _ _ => rfl)) pa_nil)))))))) pss_nil)
      (pss_one (ps_ret (pe_and (pe_cmpR op_eq (pe_ix ix_tup (pv 2) pe_int (fun _ _ => rfl)) pe_str (nomark _)) (pe_one (pe_def dG hr (pa_cons (pv 0) (pa_cons (pv 1) (pa_cons (pe_ix ix_tup (pv 2) pe_int (fun _ _ => rfl)) (pa_cons (pe_ix ix_tup (pv 2) pe_int (fun _ _ => rfl)) (pa_cons (pe_ix ix_tup (pv 2) pe_int (fun _ _ => rfl)) pa_nil)))))))))))))), ?_⟩
    obtain ⟨nm, rest, hv, hn⟩ : ∃ (nm : Str) (rest : List V), l.vals b c = .str nm :: .ref b :: .ref c :: rest ∧ 3 ≤ (l.vals b c).length := by
      cases l with
      | bes => exact ⟨_, [], rfl, Nat.le_refl _⟩
      | alo t => exact ⟨_, _, rfl, Nat.le_succ _⟩
      | aga t => exact ⟨_, _, rfl, Nat.le_succ _⟩
    have at0 : atI (l.vals b c) 0 = some (.str nm) := by rw [hv]; exact atI_nat (j := 0) rfl
    have at1 : atI (l.vals b c) 1 = some (.ref b) := by rw [hv]; exact atI_nat (j := 1) rfl
    have at2 : atI (l.vals b c) 2 = some (.ref c) := by rw [hv]; exact atI_nat (j := 2) rfl
    have hw1 := L.w1
    have hw2 := L.w2
    -- its shape
    refine q_when (b := false || (false || false)) (et_or (et_not (a := true) (et_B (ev_isiTup (ev_var rfl) hd (by decide +kernel)))) fun _ => et_or (et_is (et_test (ev_op (ev_lenT (ev_var rfl) hd) ev_c rv_I0)) (decide_eq_false (by omega))) fun _ => et_not (a := true) (et_B (ev_isiStr (z := nm) (ev_ix (ev_var rfl) hd at0) (by decide +kernel)))) (fun x => by cases x) fun _ H1 e1 => ?_
    have L1 := L.ex e1
    have hd1 := e1 d _ hd
    -- its strands
    refine q_when (b := false || false) (et_or (et_not (a := true) (et_B (ev_call (ea_cons (ev_var rfl) (ea_cons (ev_ix (ev_var rfl) hd1 at1) ea_nil)) (spIsStrand_V L1.ways L1.s1 hw1.at_ L1.p1 hw1.few)))) fun _ => et_not (a := true) (et_B (ev_call (ea_cons (ev_var rfl) (ea_cons (ev_ix (ev_var rfl) hd1 at2) ea_nil)) (spIsStrand_V L1.ways L1.s2 hw2.at_ L1.p2 hw2.few)))) (fun x => by cases x) fun _ H2 e2 => ?_
    have L2' := L1.ex e2
    have hd2 := e2 d _ hd1
    cases l with
    | bes =>
      have en : nm = "beside" := (V.str.inj (List.cons.inj hv).1).symm
      subst en
      refine q_when (b := true) (et_is (et_test (ev_op (ev_ix (ev_var rfl) hd2 at0) ev_c (rv_eq rfl))) (by decide +kernel)) (fun _ H3 e3 => ?_) fun x => by cases x
      have L3 := L2'.ex e3
      have hd3 := e3 d _ hd2
      refine s_ret (ev_andV (a := true) (ev_is (ev_op (ev_lenT (ev_var rfl) hd3) ev_c (rv_eq rfl)) (by rfl)) fun _ => ev_call (ea_cons (ev_var rfl) (ea_cons (ev_var rfl) (ea_cons (ev_ix (ev_var rfl) hd3 at1) (ea_cons (ev_ix (ev_var rfl) hd3 at2) ea_nil)))) (spIsBeside_V L3)) fun H4 e4 => ?_
      exact z H4 (((e1.trans e2).trans e3).trans e4)
    | alo t =>
      have en : nm = "along" := (V.str.inj (List.cons.inj hv).1).symm
      subst en
      have at3 : atI (Lk.vals b c (.alo t)) 3 = some (.int (t : Int)) := atI_nat (j := 3) rfl
      refine q_when (b := false) (et_is (et_test (ev_op (ev_ix (ev_var rfl) hd2 at0) ev_c (rv_eq rfl))) (by decide +kernel)) (fun x => by cases x) fun _ H3 e3 => ?_
      have L3 := L2'.ex e3
      have hd3 := e3 d _ hd2
      refine q_when (b := false || !decide (0 < t)) (et_or (et_is (et_test (ev_op (ev_lenT (ev_var rfl) hd3) ev_c (rv_ne rfl))) (by rfl)) fun _ => et_not (et_B (ev_call (ea_cons (ev_ix (ev_var rfl) hd3 at3) ea_nil) spIsLong_V))) (fun hb H4 e4 => ?_) fun hb H4 e4 => ?_
      · refine s_ret ev_c fun H5 e5 => ?_
        have e : Lk.ok F u v i p j q (.alo t) = false := by
          show (decide (0 < t) && _) = false
          rw [show decide (0 < t) = false by simpa using hb]
          rfl
        rw [e] at z
        exact z H5 ((((e1.trans e2).trans e3).trans e4).trans e5)
      have ht : decide (0 < t) = true := by simpa using hb
      have L4 := L3.ex e4
      have hd4 := e4 d _ hd3
      refine q_when (b := true) (et_is (et_test (ev_op (ev_ix (ev_var rfl) hd4 at0) ev_c (rv_eq rfl))) (by decide +kernel)) (fun _ H5 e5 => ?_) fun x => by cases x
      have L5 := L4.ex e5
      have hd5 := e5 d _ hd4
      refine s_ret (ev_call (ea_cons (ev_var rfl) (ea_cons (ev_var rfl) (ea_cons (ev_ix (ev_var rfl) hd5 at1) (ea_cons (ev_ix (ev_var rfl) hd5 at2) (ea_cons (ev_ix (ev_var rfl) hd5 at3) ea_nil))))) (spIsAlong_V L5 hf)) fun H6 e6 => ?_
      have e : Lk.ok F u v i p j q (.alo t) = (ltS i p j q && aloC F u v p q t) := by
        show (decide (0 < t) && _) = _
        rw [ht, Bool.true_and]
      rw [e] at z
      exact z H6 (((((e1.trans e2).trans e3).trans e4).trans e5).trans e6)
    | aga t =>
      have en : nm = "against" := (V.str.inj (List.cons.inj hv).1).symm
      subst en
      have at3 : atI (Lk.vals b c (.aga t)) 3 = some (.int (t : Int)) := atI_nat (j := 3) rfl
      refine q_when (b := false) (et_is (et_test (ev_op (ev_ix (ev_var rfl) hd2 at0) ev_c (rv_eq rfl))) (by decide +kernel)) (fun x => by cases x) fun _ H3 e3 => ?_
      have L3 := L2'.ex e3
      have hd3 := e3 d _ hd2
      refine q_when (b := false || !decide (0 < t)) (et_or (et_is (et_test (ev_op (ev_lenT (ev_var rfl) hd3) ev_c (rv_ne rfl))) (by rfl)) fun _ => et_not (et_B (ev_call (ea_cons (ev_ix (ev_var rfl) hd3 at3) ea_nil) spIsLong_V))) (fun hb H4 e4 => ?_) fun hb H4 e4 => ?_
      · refine s_ret ev_c fun H5 e5 => ?_
        have e : Lk.ok F u v i p j q (.aga t) = false := by
          show (decide (0 < t) && _) = false
          rw [show decide (0 < t) = false by simpa using hb]
          rfl
        rw [e] at z
        exact z H5 ((((e1.trans e2).trans e3).trans e4).trans e5)
      have ht : decide (0 < t) = true := by simpa using hb
      have L4 := L3.ex e4
      have hd4 := e4 d _ hd3
      refine q_when (b := false) (et_is (et_test (ev_op (ev_ix (ev_var rfl) hd4 at0) ev_c (rv_eq rfl))) (by decide +kernel)) (fun x => by cases x) fun _ H5 e5 => ?_
      have L5 := L4.ex e5
      have hd5 := e5 d _ hd4
      refine s_ret (ev_andV (a := true) (ev_is (ev_op (ev_ix (ev_var rfl) hd5 at0) ev_c (rv_eq rfl)) (by decide +kernel)) fun _ => ev_call (ea_cons (ev_var rfl) (ea_cons (ev_var rfl) (ea_cons (ev_ix (ev_var rfl) hd5 at1) (ea_cons (ev_ix (ev_var rfl) hd5 at2) (ea_cons (ev_ix (ev_var rfl) hd5 at3) ea_nil))))) (spIsAgainst_V L5 hf)) fun H6 e6 => ?_
      have e : Lk.ok F u v i p j q (.aga t) = (true && (ltA i p j q v.length t && agaC F u v p q t)) := by
        show (decide (0 < t) && _) = _
        rw [ht]
      rw [e] at z
      exact z H6 (((((e1.trans e2).trans e3).trans e4).trans e5).trans e6)
end
end RW
set_option Elab.async false
set_option linter.all false
set_option maxRecDepth 100000
set_option maxHeartbeats 4000000
namespace RW
open PySem PySem.Spec PyProof.Rows L2 SX Evl

/-! ### links_of -/
def lkOf (F u v : Wd) (i p j q : Nat) : List Lk := [Lk.bes, Lk.alo (runA u v p q), Lk.aga (runG u v p q)].filter fun l => l.ok F u v i p j q
def lkD (F u v : Wd) (i p j q : Nat) : List PyData := (lkOf F u v i p j q).map (Lk.enc i p j q)
theorem lkD_len (F u v : Wd) (i p j q : Nat) : (lkD F u v i p j q).length ≤ 3 := by
  unfold lkD lkOf
  rw [List.length_map]
  exact List.length_filter_le _ _
def spLinksOf : Sp := fun vs H Q _ => ∃ (a b c : Addr) (F : Wd) (n : Nat) (W : List Wd) (i p j q : Nat) (u v : Wd), vs = [vS F, .ref a, .ref b, .ref c] ∧ LC H a b c F n W i p j q u v ∧ RetTD (lkD F u v i p j q) H Q
theorem td_strand {H : Hp} {b : Addr} {i p : Nat} (h : StrT H b i p) : TD H (.ref b) (sD i p) := .tup h (.cons (.int _) (.cons (.int _) .nil))
theorem td_link {H : Hp} {b c d : Addr} {i p j q : Nat} {l : Lk} (hd : H d = some (.tup (l.vals b c))) (h1 : StrT H b i p) (h2 : StrT H c j q) : TD H (.ref d) (l.enc i p j q) := by
  cases l with
  | bes => exact .tup hd (.cons (.str _) (.cons (td_strand h1) (.cons (td_strand h2) .nil)))
  | alo t => exact .tup hd (.cons (.str _) (.cons (td_strand h1) (.cons (td_strand h2) (.cons (.int _) .nil))))
  | aga t => exact .tup hd (.cons (.str _) (.cons (td_strand h1) (.cons (td_strand h2) (.cons (.int _) .nil))))
theorem runA_few (u v : Wd) (p q : Int) : runA u v p q ≤ u.length + v.length := by
  have := runL_le (fA u v p q) (u.length + v.length) 0
  unfold runA
  omega
theorem runG_few (u v : Wd) (p q : Int) : runG u v p q ≤ u.length + v.length := by
  have := runL_le (fG u v p q) (u.length + v.length) 0
  unfold runG
  omega
section
variable {P : Program} {w : World} {K : PySem.W.Frag} {mg : Str → Option Value} {base : Heap} {f : Addr} {fd : FuncData} {k : Nat}
theorem ok_linksOf {f1 f2 f3 : Addr} {fd1 fd2 fd3 : FuncData} (F0 : Fun K "links_of" "links_of" sLinksOf f fd) (dA : Def P w K mg base (k + 2) "run_along" ["ways", "one", "other"] (spRun runA) f1 fd1) (dG : Def P w K mg base (k + 2) "run_against" ["ways", "one", "other"] (spRun runG) f2 fd2)
    (dL : Def P w K mg base (k + 2) "is_link" ["surface", "ways", "thing"] spIsLink f3 fd3) : FnOk P w K mg base CX0 (k + 3) f fd ["surface", "ways", "one", "other"] spLinksOf := by
  refine F0.ok scLinksOf (fun vs H Q E h => ?_) (fun cdv A outer s H vs Q E hr h => ?_)
  · obtain ⟨a, b, c, F, n, W, i, p, j, q, u, v, rfl, _⟩ := h
    rfl
  · obtain ⟨a, b, c, F, n, W, i, p, j, q, u, v, rfl, L, z⟩ := h
    refine ⟨_, pss_cons (ps_set (i := 4) scLinksOf.nd rfl (.inl rfl) (pe_tup (pa_cons pe_str (pa_cons (pv 2) (pa_cons (pv 3) (pa_cons (pe_def dA hr (pa_cons (pv 1) (pa_cons (pv 2) (pa_cons (pv 3) pa_nil)))) pa_nil))))))
      (pss_cons (ps_set (i := 5) scLinksOf.nd rfl (.inl rfl) (pe_tup (pa_cons pe_str (pa_cons (pv 2) (pa_cons (pv 3) (pa_cons (pe_def dG hr (pa_cons (pv 1) (pa_cons (pv 2) (pa_cons (pv 3) pa_nil)))) pa_nil))))))
      (pss_one (ps_ret (pe_lc (own := [("link", 6)]) (g := gName 6) rfl scLinksOf.nd (pi_tup (pe_tup (pa_cons (pe_tup (pa_cons pe_str (pa_cons (pv 2) (pa_cons (pv 3) pa_nil)))) (pa_cons (pv 4) (pa_cons (pv 5) pa_nil))))) (blkOk_by (N := ["surface", "ways", "one", "other", "along", "against", "link"]) (sc := defScope sLinksOf) (by decide +kernel))
        (fun _ _ _ _ _ => pg_name (i := 6) scLinksOf.nd rfl (Or.inl rfl)) (fun _ _ _ _ _ => pts_one (pt_val (pe_def dL hr (pa_cons (pv 0) (pa_cons (pv 1) (pa_cons (pv 6) pa_nil)))))) (fun _ _ _ _ _ => pv 6))))), ?_⟩
    refine q_asgU (eu_tup (ea_cons ev_c (ea_cons (ev_var rfl) (ea_cons (ev_var rfl) (ea_cons (ev_call (ea_cons (ev_var rfl) (ea_cons (ev_var rfl) (ea_cons (ev_var rfl) ea_nil))) (spRun_V L)) ea_nil)))) (by show 4 ≤ 100000; decide)) fun x1 H1 n1 e1 h1 => ?_
    have L1 := L.ex e1
    refine q_asgU (eu_tup (ea_cons ev_c (ea_cons (ev_var rfl) (ea_cons (ev_var rfl) (ea_cons (ev_call (ea_cons (ev_var rfl) (ea_cons (ev_var rfl) (ea_cons (ev_var rfl) ea_nil))) (spRun_V L1)) ea_nil)))) (by show 4 ≤ 100000; decide)) fun x2 H2 n2 e2 h2 => ?_
    have L2' := L1.ex e2
    have h1' := e2 x1 _ h1
    -- the three, told by turns
    refine ⟨.ref b, rfl, .ref c, rfl, by show 3 ≤ sizeLine; decide, fun x0 n0 => ?_⟩
    refine ⟨_, rfl, _, rfl, by show 3 ≤ sizeLine; decide, fun t nt => ⟨t, rfl, ⟨_, st_of upd_same⟩, fun D nD => ?_⟩⟩
    have e3 : Ex H2 (upd H2 x0 (.tup [V.str "beside", .ref b, .ref c])) := Ex.new n0
    have e4 : Ex (upd H2 x0 (.tup [V.str "beside", .ref b, .ref c])) (upd (upd H2 x0 (.tup [V.str "beside", .ref b, .ref c])) t (.tup [.ref x0, .ref x1, .ref x2])) := Ex.new nt
    have g0 := e4 x0 _ upd_same
    have gT : (upd (upd H2 x0 (.tup [V.str "beside", .ref b, .ref c])) t (.tup [.ref x0, .ref x1, .ref x2])) t = some (.tup [.ref x0, .ref x1, .ref x2]) := upd_same
    have g1 := e4 x1 _ (e3 x1 _ h1')
    have g2 := e4 x2 _ (e3 x2 _ h2)
    have L4 := (L2'.ex e3).ex e4
    have eAll := ((e1.trans e2).trans e3).trans e4
    generalize upd (upd H2 x0 (.tup [V.str "beside", .ref b, .ref c])) t (.tup [.ref x0, .ref x1, .ref x2]) = G at *
    let lk : Nat → Lk := fun m => if m = 0 then .bes else if m = 1 then .alo (runA u v p q) else .aga (runG u v p q)
    let vl : Nat → V := fun m => if m = 0 then .ref x0 else if m = 1 then .ref x1 else .ref x2
    have gs : ∀ m, m < 3 → ∃ d, vl m = .ref d ∧ G d = some (.tup ((lk m).vals b c)) ∧ (lk m).few (u.length + v.length) := fun m hm => by
      match m, hm with
      | 0, _ => exact ⟨x0, rfl, g0, trivial⟩
      | 1, _ => exact ⟨x1, rfl, g1, runA_few _ _ _ _⟩
      | 2, _ => exact ⟨x2, rfl, g2, runG_few _ _ _ _⟩
    have hT : SqT K G t [.ref x0, .ref x1, .ref x2] := st_of gT
    refine lc_tup (K := K) (a := t) (xs := [.ref x0, .ref x1, .ref x2]) (Cw G (fun m => (lk m).ok F u v i p j q) vl D) ⟨nD, Ex.new nD, upd_same⟩ (fun m G' _ q => ex_t q.2.1 hT) (fun m x G' hx q => ?_) (fun G' q => ?_)
    · have hm : m < 3 := (List.getElem?_eq_some_iff.mp hx).1
      obtain ⟨d, ev, gd, few⟩ := gs m hm
      have ex : x = .ref d := by
        rw [← ev]
        match m, hm, hx with
        | 0, _, hx => exact (Option.some.inj hx).symm
        | 1, _, hx => exact (Option.some.inj hx).symm
        | 2, _, hx => exact (Option.some.inj hx).symm
      subst ex
      refine ⟨rfl, cw_turn q (by omega) (et_B (ev_call (ea_cons (ev_var rfl) (ea_cons (ev_var rfl) (ea_cons (ev_var rfl) ea_nil))) (spIsLink_V L4 gd few))) fun _ => ?_⟩
      rw [ev]
      exact ev_var rfl
    · obtain ⟨q1, q2, q3⟩ := q
      refine z D G' (fresh_back eAll q1) (eAll.trans q2) ⟨_, q3, ?_⟩
      have key : ∀ ms : List Nat, (∀ m ∈ ms, m < 3) → TDs G' (ms.map vl) ((ms.map lk).map (Lk.enc i p j q)) := by
        intro ms
        induction ms with
        | nil => intro _; exact .nil
        | cons m ms ih =>
          intro hms
          obtain ⟨d, ev, gd, _⟩ := gs m (hms m List.mem_cons_self)
          rw [List.map_cons, List.map_cons, List.map_cons, ev]
          exact .cons (td_link (q2 d _ gd) (L4.ex q2).s1 (L4.ex q2).s2) (ih fun y hy => hms y (List.mem_cons_of_mem _ hy))
      have hk := key ((List.range 3).filter fun m => (lk m).ok F u v i p j q) fun m hm => List.mem_range.mp (List.mem_filter.mp hm).1
      have e : ((List.range 3).filter fun m => (lk m).ok F u v i p j q).map lk = lkOf F u v i p j q := by
        unfold lkOf
        have e5 : [Lk.bes, Lk.alo (runA u v p q), Lk.aga (runG u v p q)] = (List.range 3).map lk := rfl
        rw [e5, List.filter_map]
        rfl
      rw [e] at hk
      exact hk
end
end RW
set_option Elab.async false
set_option linter.all false
set_option maxRecDepth 100000
set_option maxHeartbeats 4000000
namespace RW
open PySem PySem.Spec PyProof.Rows L2 SX Evl

/-! ### links -/
def rowD (F u v : Wd) (i j p : Nat) : List PyData := (List.range v.length).flatMap fun q => lkD F u v i p j q
def linksD (F u v : Wd) (i j : Nat) : List PyData := (List.range u.length).flatMap fun p => rowD F u v i j p
theorem flat_snoc {α : Type} (g : Nat → List α) (n : Nat) : (List.range (n + 1)).flatMap g = (List.range n).flatMap g ++ g n := by
  rw [List.range_succ, List.flatMap_append, List.flatMap_cons, List.flatMap_nil, List.append_nil]
theorem flat_len {α : Type} {g : Nat → List α} {m : Nat} : ∀ (n : Nat), (∀ k, k < n → (g k).length ≤ m) → ((List.range n).flatMap g).length ≤ n * m
  | 0, _ => by
    show 0 ≤ _
    omega
  | n + 1, h => by
    have ih := flat_len n fun k hk => h k (by omega)
    have h2 := h n (by omega)
    rw [flat_snoc, List.length_append, Nat.add_mul]
    omega
theorem row_len {F u v : Wd} {i j p : Nat} (hv : v.length ≤ 100) : (rowD F u v i j p).length ≤ 300 := by
  have h := flat_len (g := fun q => lkD F u v i p j q) (m := 3) v.length fun k _ => lkD_len F u v i p j k
  unfold rowD
  omega
theorem part_len {F u v : Wd} {i j p : Nat} (hu : p ≤ 100) (hv : v.length ≤ 100) : ((List.range p).flatMap fun p => rowD F u v i j p).length ≤ 30000 := by
  have h := flat_len (g := fun p => rowD F u v i j p) (m := 300) p fun k _ => row_len hv
  omega
/-- what a link's datum looks like -/
theorem lkD_is {F u v : Wd} {i p j q : Nat} {d : PyData} (h : d ∈ lkD F u v i p j q) : ∃ l : Lk, d = l.enc i p j q := by
  obtain ⟨l, _, e⟩ := List.mem_map.mp h
  exact ⟨l, e.symm⟩
theorem linksD_is {F u v : Wd} {i j : Nat} {d : PyData} (h : d ∈ linksD F u v i j) : ∃ (p q : Nat) (l : Lk), d = l.enc i p j q := by
  obtain ⟨p, _, h2⟩ := List.mem_flatMap.mp h
  obtain ⟨q, _, h3⟩ := List.mem_flatMap.mp h2
  obtain ⟨l, e⟩ := lkD_is h3
  exact ⟨p, q, l, e⟩
theorem enc_alike (i p j q i' p' j' q' : Nat) (l l' : Lk) : PySem.W.alike (l.enc i p j q) (l'.enc i' p' j' q') = true := by
  cases l <;> cases l' <;> simp [Lk.enc, sD, PySem.W.alike, PySem.W.alikeAll]
theorem enc_depth (i p j q : Nat) (l : Lk) : (l.enc i p j q).depth ≤ 50 := by
  cases l <;> simp [Lk.enc, sD, PyData.depth, PyData.depthAll]
theorem enc_tup (i p j q : Nat) (l : Lk) : ∃ x r, l.enc i p j q = .tuple (x :: r) := by
  cases l <;> exact ⟨_, _, rfl⟩
def spLinks : Sp := fun vs H Q _ => ∃ (a : Addr) (F : Wd) (n : Nat) (W : List Wd) (i j : Nat) (u v : Wd), vs = [vS F, .ref a, .int (i : Int), .int (j : Int)] ∧ Sf F n ∧ WaysT H a W ∧ WayAt W i u ∧ WayAt W j v ∧ (∀ d ∈ u, d ∈ F) ∧ (∀ d ∈ v, d ∈ F) ∧ RetTD (sortD (linksD F u v i j)) H Q
section
variable {P : Program} {w : World} {K : PySem.W.Frag} {mg : Str → Option Value} {base : Heap} {f : Addr} {fd : FuncData} {k : Nat}
theorem ok_links {f1 : Addr} {fd1 : FuncData} (F0 : Fun K "links" "links" sLinks f fd) (mr : mg "range" = none) (ml : mg "len" = none) (mo : mg "sorted" = none) (dL : Def P w K mg base (k + 2) "links_of" ["surface", "ways", "one", "other"] spLinksOf f1 fd1) :
    FnOk P w K mg base CX0 (k + 3) f fd ["surface", "ways", "i", "j"] spLinks := by
  refine F0.ok scLinks (fun vs H Q E h => ?_) (fun cdv A outer s H vs Q E hr h => ?_)
  · obtain ⟨a, F, n, W, i, j, u, v, rfl, _⟩ := h
    rfl
  · obtain ⟨a, F, n, W, i, j, u, v, rfl, sf, hW, hu, hv, l1, l2, z⟩ := h
    have hf1 := hu.few
    have hf2 := hv.few
    refine ⟨_, pss_cons (ps_set (i := 4) scLinks.nd rfl (.inl rfl) (pe_lst pa_nil))
      (pss_cons (ps_for PassesOwn.never rfl (pi_range1 rfl mr (pa_cons (pe_callB call_len (by rfl) ml PySem.boot_len (pa_cons (pe_ix ix_tup (pv 1) (pv 2) (fun _ _ => rfl)) pa_nil)) pa_nil)) (pg_name (i := 5) scLinks.nd rfl (Or.inl rfl))
        (pss_one (ps_for PassesOwn.never rfl (pi_range1 rfl mr (pa_cons (pe_callB call_len (by rfl) ml PySem.boot_len (pa_cons (pe_ix ix_tup (pv 1) (pv 3) (fun _ _ => rfl)) pa_nil)) pa_nil)) (pg_name (i := 6) scLinks.nd rfl (Or.inl rfl))
          (pss_one (ps_expr (pe_bm PySem.F.plainAttrs_list PySem.F.slot_list_extend PySem.F.type_list_extend mt_extend (pv 4) (pa_cons (pe_def dL hr (pa_cons (pv 0) (pa_cons (pv 1) (pa_cons (pe_tup (pa_cons (pv 2) (pa_cons (pv 5) pa_nil))) (pa_cons (pe_tup (pa_cons (pv 3) (pa_cons (pv 6) pa_nil))) pa_nil))))) pa_nil)))))))
      (pss_one (ps_ret (pe_callB (cr_sortedD hr) (by rfl) mo boot_sorted (pa_cons (pv 4) pa_nil))))), ?_⟩
    refine q_asgL (el_lst ea_nil (by show 0 ≤ 100000; decide)) fun g H1 ng e1 hg => ?_
    have len1 : ∀ (σ : L2.St) (G : Hp), Ex H G → σ[1]? = some (some (.ref a)) → σ[2]? = some (some (.int (i : Int))) → Ev (tCB (fun xs H Q => ∃ x n, xs = [x] ∧ LenV K x H n ∧ Q (.int (n : Nat)) H) (tCons (tOp (rIxT K) (tVar 1) (tVar 2)) tNil)) σ G (.int ((u.length : Nat) : Int)) := fun σ G e s1 s2 =>
      ev_lenS (ev_op (ev_var s1) (ev_var s2) (rv_ixT (st_of (hW.ex e)) hu.get)) (by omega)
    have len2 : ∀ (σ : L2.St) (G : Hp), Ex H G → σ[1]? = some (some (.ref a)) → σ[3]? = some (some (.int (j : Int))) → Ev (tCB (fun xs H Q => ∃ x n, xs = [x] ∧ LenV K x H n ∧ Q (.int (n : Nat)) H) (tCons (tOp (rIxT K) (tVar 1) (tVar 3)) tNil)) σ G (.int ((v.length : Nat) : Int)) := fun σ G e s1 s2 =>
      ev_lenS (ev_op (ev_var s1) (ev_var s2) (rv_ixT (st_of (hW.ex e)) hv.get)) (by omega)
    refine q_forR1 (n := ((u.length : Nat) : Int)) (ea_cons (len1 _ _ e1 rfl rfl) ea_nil) (by omega)
      (fun p σ' G => ∃ y5 y6, σ' = [some (vS F), some (.ref a), some (.int (i : Int)), some (.int (j : Int)), some (.ref g), y5, y6] ∧ Ex H G ∧ ∃ xs, G g = some (.lst xs) ∧ TDs G xs ((List.range p).flatMap fun p => rowD F u v i j p))
      (fun G e => ⟨none, none, rfl, e1.trans e, [], e g _ hg, .nil⟩) (fun p σ' G hp hP => ?_) fun σ' G hP => ?_
    · obtain ⟨y5, y6, rfl, eG, xs0, hx0, t0⟩ := hP
      have hp' : p < u.length := by omega
      refine s_forR1 (n := ((v.length : Nat) : Int)) (ea_cons (len2 _ _ eG rfl rfl) ea_nil) (by omega)
        (fun q σ' G => ∃ y6, σ' = [some (vS F), some (.ref a), some (.int (i : Int)), some (.int (j : Int)), some (.ref g), some (.int (p : Int)), y6] ∧ Ex H G ∧ ∃ xs, G g = some (.lst xs) ∧ TDs G xs ((List.range p).flatMap (fun p => rowD F u v i j p) ++ (List.range q).flatMap fun q => lkD F u v i p j q))
        (fun G' e => ⟨y6, rfl, eG.trans e, xs0, e g _ hx0, by rw [List.range_zero, List.flatMap_nil, List.append_nil]; exact t0.ex e⟩) (fun q σ' G hq hP => ?_) fun σ' G hP => ?_
      · obtain ⟨y6, rfl, eG, xs, hx, tx⟩ := hP
        have hq' : q < v.length := by omega
        refine ⟨.ref g, rfl, Or.inl ⟨rfl, xs, sq_of hx⟩, vS F, rfl, .ref a, rfl, .int (i : Int), rfl, .int (p : Int), rfl, by show 2 ≤ sizeLine; decide, fun b nb => ?_⟩
        refine ⟨.int (j : Int), rfl, .int (q : Int), rfl, by show 2 ≤ sizeLine; decide, fun c nc => ?_⟩
        have eb : Ex G (upd G b (.tup [.int (i : Int), .int (p : Int)])) := Ex.new nb
        have ec : Ex (upd G b (.tup [.int (i : Int), .int (p : Int)])) (upd (upd G b (.tup [.int (i : Int), .int (p : Int)])) c (.tup [.int (j : Int), .int (q : Int)])) := Ex.new nc
        have gb : (upd (upd G b (.tup [.int (i : Int), .int (p : Int)])) c (.tup [.int (j : Int), .int (q : Int)])) b = some (.tup [.int (i : Int), .int (p : Int)]) := ec b _ upd_same
        have gc : (upd (upd G b (.tup [.int (i : Int), .int (p : Int)])) c (.tup [.int (j : Int), .int (q : Int)])) c = some (.tup [.int (j : Int), .int (q : Int)]) := upd_same
        have e3 := eb.trans ec
        generalize upd (upd G b (.tup [.int (i : Int), .int (p : Int)])) c (.tup [.int (j : Int), .int (q : Int)]) = G3 at *
        refine ⟨a, b, c, F, n, W, i, p, j, q, u, v, rfl, ⟨sf, hW.ex (eG.trans e3), gb, gc, hu, hv, l1, l2, hp', hq'⟩, fun r G4 nr e4 hz => ?_⟩
        obtain ⟨zs, hz, tz⟩ := hz
        have lz : zs.length ≤ 3 := by rw [tz.length]; exact lkD_len F u v i p j q
        have lx : xs.length ≤ 31000 := by
          have h1 := tx.length
          have h2 := part_len (F := F) (u := u) (v := v) (i := i) (j := j) (p := p) (by omega) hf2
          have h3 := flat_len (g := fun q => lkD F u v i p j q) (m := 3) q fun k _ => lkD_len F u v i p j k
          rw [List.length_append] at h1
          omega
        have hx4 := e4 g _ (e3 g _ hx)
        refine ⟨g, r, xs, zs, rfl, rfl, hx4, hz, sz_of (by omega), ?_⟩
        refine ⟨some (.int (q : Int)), rfl, Ex.mut ((eG.trans e3).trans e4) ng, xs ++ zs, upd_same, ?_⟩
        rw [flat_snoc, ← List.append_assoc]
        exact (((tx.ex e3).ex e4).append tz).upd hx4
      · obtain ⟨y6, rfl, eG, xs, hx, tx⟩ := hP
        refine ⟨some (.int (p : Int)), y6, rfl, eG, xs, hx, ?_⟩
        have e : (((v.length : Nat) : Int)).toNat = v.length := Int.toNat_natCast _
        rw [e] at tx
        rw [flat_snoc]
        exact tx
    · obtain ⟨y5, y6, rfl, eG, xs, hx, tx⟩ := hP
      have e : (((u.length : Nat) : Int)).toNat = u.length := Int.toNat_natCast _
      rw [e] at tx
      have tx' : TDs G xs (linksD F u v i j) := tx
      have hm := tx'.map
      refine ⟨.ref g, rfl, g, xs, encT G, rfl, sq_of hx, fun x hxm => ?_, ?_, ?_, fun x hxm => ?_, fun r nr => ?_⟩
      · obtain ⟨d, _, t⟩ := tx'.mem hxm
        rw [encT_eq t]
        exact t.dp
      · rw [hm]
        intro d hd d' hd'
        obtain ⟨p, q, l, rfl⟩ := linksD_is hd
        obtain ⟨p', q', l', rfl⟩ := linksD_is hd'
        exact enc_alike ..
      · rw [hm]
        refine .inl fun d hd => ?_
        obtain ⟨p, q, l, rfl⟩ := linksD_is hd
        exact enc_tup ..
      · obtain ⟨d, hd, t⟩ := tx'.mem hxm
        rw [encT_eq t]
        obtain ⟨p, q, l, rfl⟩ := linksD_is hd
        exact enc_depth ..
      · refine z r _ (fresh_back eG nr) (eG.trans (Ex.new nr)) ⟨_, upd_same, ?_⟩
        exact (tx'.sorted).ex (Ex.new nr)
end
end RW
set_option Elab.async false
set_option linter.all false
set_option maxRecDepth 100000
set_option maxHeartbeats 4000000
namespace RW
open PySem PySem.Spec PyProof.Rows L2 SX Evl

/-! ### sums -/
def cnt (u : Wd) (c : Nat) : Int := (u.count c : Int) - (u.count (bk c) : Int)
def sumsV (n : Nat) (u : Wd) : List V := (List.range n).map fun k => .int (cnt u (97 + k))
def spSums : Sp := fun vs H Q _ => ∃ (n : Nat) (u : Wd), vs = [.int (n : Int), vS u] ∧ n ≤ 6 ∧ u.length ≤ 1000 ∧ ∀ p H', H p = none → Ex H H' → H' p = some (.tup (sumsV n u)) → Q (.ref p) H'
theorem range_small (n : Nat) (hn : n ≤ 6) : ([97, 98, 99, 100, 101, 102] : Wd).take n = (List.range n).map fun k => 97 + k := by
  match n, hn with
  | 0, _ => rfl
  | 1, _ => rfl
  | 2, _ => rfl
  | 3, _ => rfl
  | 4, _ => rfl
  | 5, _ => rfl
  | 6, _ => rfl
theorem small_at {k : Nat} (hk : k < 6) : ([97, 98, 99, 100, 101, 102] : Wd)[k]? = some (97 + k) := by
  match k, hk with
  | 0, _ => rfl
  | 1, _ => rfl
  | 2, _ => rfl
  | 3, _ => rfl
  | 4, _ => rfl
  | 5, _ => rfl
theorem small_in {k : Nat} (hk : k < 6) : 97 + k ∈ ([97, 98, 99, 100, 101, 102] : Wd) := List.mem_of_getElem? (small_at hk)
theorem small_LK {n k : Nat} (hk : k < n) : isLK n (97 + k) := .inl ⟨by omega, by omega⟩
section
variable {K : PySem.W.Frag} {σ : L2.St} {H : Hp} {ta tb : TE} {u : Wd} {c : Nat}
/-- tuple(xs), xs a new list -/
def rTupOf (K : PySem.W.Frag) : List V → Hp → VK → Prop := fun xs H Q => ∃ p ys, xs = [.ref p] ∧ ((SqL K H p ys ∧ ∀ l, H l = none → Q (.ref l) (upd H l (.tup ys))) ∨ (SqT K H p ys ∧ Q (.ref p) H))
theorem eu_tupOf {xs : List V} (h : EvL ta σ H xs) : EvU (tCB (rTupOf K) (tCons ta tNil)) σ H xs := fun H1 e Q q =>
  h H1 e _ fun p H2 _ e2 h2 => ⟨p, xs, rfl, .inl ⟨sq_of h2, fun l hl => q l _ (fresh_back e2 hl) (e2.trans (Ex.new hl)) upd_same⟩⟩
def rCnt : V → List V → Hp → VK → Prop := fun x xs H Q => ∃ a b, x = .str a ∧ xs = [.str b] ∧ Q (.int (Txt.count a b)) H
theorem ev_cnt (h : Ev ta σ H (vS u)) (h2 : Ev tb σ H (vS [c])) : Ev (tM1 rCnt ta tb) σ H (.int ((u.count c : Nat) : Int)) := fun H1 e Q q =>
  h H1 e _ fun H2 e2 => ⟨⟨_, rfl⟩, h2 H2 (e.trans e2) _ fun H3 e3 => ⟨S u, S [c], rfl, rfl, by rw [cnt_S]; exact q H3 (e2.trans e3)⟩⟩
def rUp : V → List V → Hp → VK → Prop := fun x xs H Q => ∃ a, x = .str a ∧ xs = [] ∧ a.length ≤ 5592405 ∧ Q (.str (Txt.upper a)) H
theorem ev_up {k : Nat} (h : Ev ta σ H (vS [97 + k])) (hk : k < 6) : Ev (tM0 rUp ta) σ H (vS [bk (97 + k)]) := fun H1 e Q q =>
  h H1 e _ fun H2 e2 => ⟨⟨_, rfl⟩, S [97 + k], rfl, rfl, by show 1 ≤ 5592405; decide, by rw [up_S (small_LK hk) (small_in hk)]; exact q H2 e2⟩
end
section
variable {P : Program} {w : World} {K : PySem.W.Frag} {mg : Str → Option Value} {base : Heap} {f : Addr} {fd : FuncData} {k : Nat}
theorem ok_sums {tk : Tok} (F0 : Fun K "sums" "sums" sSums f fd) (mt : mg "tuple" = none) (gS : mg "SMALL_letters" = some (.str "abcdef" tk)) : FnOk P w K mg base CX0 (k + 1) f fd ["many", "word"] spSums := by
  refine F0.ok scSums (fun vs H Q E h => ?_) (fun cdv A outer s H vs Q E hr h => ?_)
  · obtain ⟨n, u, rfl, _⟩ := h
    rfl
  · obtain ⟨n, u, rfl, hn, hl, z⟩ := h
    refine ⟨_, pss_one (ps_ret (pe_callTy call_tuple_of (by rfl) mt boot_tup (pa_cons (pe_lc (own := [("sign", 2)]) (g := gName 2) rfl scSums.nd (pi_str (pe_slice sl_str (pe_glob rfl gS (v := .str "abcdef") ⟨_, rfl⟩) po_none (po_some (pv 0)))) (blkOk_by (N := ["many", "word", "sign"]) (sc := defScope sSums) (by decide +kernel))
      (fun _ _ _ _ _ => pg_name (i := 2) scSums.nd rfl (Or.inl rfl)) (fun _ _ _ _ _ => pts_nil) (fun _ _ _ _ _ => pe_op op_sub (pe_m1 PySem.F.slot_str_count PySem.F.type_str_count mt_count (pv 1) (pv 2)) (pe_m1 PySem.F.slot_str_count PySem.F.type_str_count mt_count (pv 1) (pe_upper (pv 2))))) pa_nil))), ?_⟩
    have hs : Ev (tSl rSlS (tC (.str "abcdef")) tNoPart (tPart (tVar 0))) (start ["many", "word", "sign"] [.int (n : Int), vS u]) H (vS ((List.range n).map fun k => 97 + k)) := by
      rw [← range_small n hn, small_S]
      exact ev_to (u := [97, 98, 99, 100, 101, 102]) (k := n) ev_c (ev_var rfl) (by show 6 ≤ 1000; decide)
    refine s_retU (eu_tupOf (el_mapS (sumsV n u) hs (by unfold sumsV; rw [List.length_map, List.length_map]) (by rw [List.length_map, List.length_range]; omega) (fun _ => rfl) (fun i c y H1 e hc hy => ?_))) fun p H1 hp e1 h1 => z p H1 hp e1 h1
    have hi : i < n := by
      have := (List.getElem?_eq_some_iff.mp hc).1
      rw [List.length_map, List.length_range] at this
      exact this
    rw [List.getElem?_map, List.getElem?_range hi] at hc
    have ec : c = 97 + i := (Option.some.inj hc).symm
    subst ec
    unfold sumsV at hy
    rw [List.getElem?_map, List.getElem?_range hi] at hy
    have ey := (Option.some.inj hy).symm
    subst ey
    exact ev_op (ev_cnt (ev_var rfl) (ev_var rfl)) (ev_cnt (ev_var rfl) (ev_up (ev_var rfl) (by omega))) rv_I0
end

/-! ### side_of -/
def spSideOf : Sp := fun vs H Q _ => ∃ (F : Wd) (n x y : Nat), vs = [vS F, vS [97 + x], vS [97 + y]] ∧ Sf F n ∧ x < n ∧ y < n ∧ RetV (.int (side F (97 + x) (bk (97 + x)) (97 + y) (bk (97 + y)))) H Q
section
variable {P : Program} {w : World} {K : PySem.W.Frag} {mg : Str → Option Value} {base : Heap} {f : Addr} {fd : FuncData} {k : Nat}
theorem ok_sideOf (F0 : Fun K "side_of" "side_of" sSideOf f fd) : FnOk P w K mg base CX0 (k + 1) f fd ["surface", "one", "other"] spSideOf := by
  refine F0.ok scSideOf (fun vs H Q E h => ?_) (fun cdv A outer s H vs Q E hr h => ?_)
  · obtain ⟨F, n, x, y, rfl, _⟩ := h
    rfl
  · obtain ⟨F, n, x, y, rfl, sf, hx, hy, z⟩ := h
    have hl := sf.small
    have nd := sf.nd
    have h6 := sf.six
    have mx : 97 + x ∈ F := (sf.mem _).mpr (small_LK hx)
    have my : 97 + y ∈ F := (sf.mem _).mpr (small_LK hy)
    have mX := sf.bk mx
    have mY := sf.bk my
    refine ⟨_, pss_cons (ps_set (i := 3) scSideOf.nd rfl (.inl rfl) (pe_bm PySem.F.plainAttrs_str PySem.F.slot_str_index PySem.F.type_str_index mt_idx (pv 0) (pa_cons (pv 1) pa_nil)))
      (pss_cons (ps_set (i := 4) scSideOf.nd rfl (.inl rfl) (pe_op op_add_str (pe_slice sl_str (pv 0) (po_some (pv 3)) po_none) (pe_slice sl_str (pv 0) po_none (po_some (pv 3)))))
      (pss_cons (ps_set (i := 5) scSideOf.nd rfl (.inl rfl) (pe_bm PySem.F.plainAttrs_str PySem.F.slot_str_index PySem.F.type_str_index mt_idx (pv 4) (pa_cons (pe_upper (pv 1)) pa_nil)))
      (pss_cons (ps_set (i := 6) scSideOf.nd rfl (.inl rfl) (pe_bm PySem.F.plainAttrs_str PySem.F.slot_str_index PySem.F.type_str_index mt_idx (pv 4) (pa_cons (pv 2) pa_nil)))
      (pss_cons (ps_set (i := 7) scSideOf.nd rfl (.inl rfl) (pe_bm PySem.F.plainAttrs_str PySem.F.slot_str_index PySem.F.type_str_index mt_idx (pv 4) (pa_cons (pe_upper (pv 2)) pa_nil)))
      (pss_cons (ps_if (pt_cmpR op_eq (pe_cmpR op_lt (pv 6) (pv 5) (nomark _)) (pe_cmpR op_lt (pv 7) (pv 5) (nomark _)) (nomark _)) (pss_one (ps_ret pe_int)) pss_nil)
      (pss_one (ps_ret (pe_ifExp (pt_cmpR op_lt (pv 6) (pv 7) (nomark _)) pe_int (pe_un un_neg pe_int))))))))), ?_⟩
    refine q_asg (ev_idx (ev_var rfl) (ev_var rfl) mx) fun H1 e1 => ?_
    refine q_asg (ev_cat (ev_from (k := F.idxOf (97 + x)) (ev_var rfl) (ev_var rfl) (by omega)) (ev_to (k := F.idxOf (97 + x)) (ev_var rfl) (ev_var rfl) (by omega)) (by rw [List.length_drop, List.length_take]; omega)) fun H2 e2 => ?_
    refine q_asg (ev_idx (u := rot F (F.idxOf (97 + x))) (ev_var rfl) (ev_up (ev_var rfl) (by omega)) (rot_mem.mpr mX)) fun H3 e3 => ?_
    refine q_asg (ev_idx (u := rot F (F.idxOf (97 + x))) (ev_var rfl) (ev_var rfl) (rot_mem.mpr my)) fun H4 e4 => ?_
    refine q_asg (ev_idx (u := rot F (F.idxOf (97 + x))) (ev_var rfl) (ev_up (ev_var rfl) (by omega)) (rot_mem.mpr mY)) fun H5 e5 => ?_
    rw [rot_ds nd mx mX, rot_ds nd mx my, rot_ds nd mx mY]
    have cast : ∀ a b : Nat, decide ((a : Int) < (b : Int)) = decide (a < b) := fun a b => decide_eq_decide.mpr (by omega)
    refine q_when (b := decide (decide (ds F (97 + x) (97 + y) < ds F (97 + x) (bk (97 + x))) = decide (ds F (97 + x) (bk (97 + y)) < ds F (97 + x) (bk (97 + x))))) (et_is (et_test (ev_op (ev_op (ev_var rfl) (ev_var rfl) rv_I0) (ev_op (ev_var rfl) (ev_var rfl) rv_I0) (rv_eq rfl))) ?_) (fun hb H6 e6 => ?_) fun hb H6 e6 => ?_
    · rw [cast, cast]
      exact decide_eq_decide.mpr ⟨fun h => V.bl.inj h, fun h => by rw [h]⟩
    · refine s_ret ev_c fun H7 e7 => ?_
      unfold side at z
      rw [if_pos (of_decide_eq_true hb)] at z
      exact z H7 ((((((e1.trans e2).trans e3).trans e4).trans e5).trans e6).trans e7)
    · unfold side at z
      rw [if_neg (of_decide_eq_false hb)] at z
      refine s_ret (ev_if (v := .int (if ds F (97 + x) (97 + y) < ds F (97 + x) (bk (97 + y)) then 1 else -1)) (et_test (ev_op (ev_var rfl) (ev_var rfl) rv_I0)) (fun h => ?_) fun h => ?_) fun H7 e7 => ?_
      · rw [cast, decide_eq_true_eq] at h
        rw [if_pos h]
        exact ev_c
      · rw [cast, decide_eq_false_iff_not] at h
        rw [if_neg h]
        exact ev_un ev_c ru_neg
      · exact z H7 ((((((e1.trans e2).trans e3).trans e4).trans e5).trans e6).trans e7)
end
end RW
set_option Elab.async false
set_option linter.all false
set_option maxRecDepth 100000
set_option maxHeartbeats 4000000
namespace RW
open PySem PySem.Spec PyProof.Rows L2 SX Evl

/-! ### balance -/
def sumTo : Nat → (Nat → Int) → Int
  | 0, _ => 0
  | n + 1, g => sumTo n g + g n
def sideI (F : Wd) (x y : Nat) : Int := side F (97 + x) (bk (97 + x)) (97 + y) (bk (97 + y))
def termI (F u v : Wd) (x y : Nat) : Int := sideI F x y * (cnt u (97 + x) * cnt v (97 + y) - cnt u (97 + y) * cnt v (97 + x))
def rowI (F : Wd) (n : Nat) (u v : Wd) (x : Nat) : Int := sumTo (n - (x + 1)) fun m => termI F u v x (x + 1 + m)
def balI (F : Wd) (n : Nat) (u v : Wd) : Int := sumTo n (rowI F n u v)
def spBalance : Sp := fun vs H Q _ => ∃ (F : Wd) (n : Nat) (u v : Wd), vs = [vS F, vS u, vS v] ∧ Sf F n ∧ u.length ≤ 1000 ∧ v.length ≤ 1000 ∧ RetV (.int (balI F n u v)) H Q
theorem spBalance_V {H : Hp} {F : Wd} {n : Nat} {u v : Wd} (h1 : Sf F n) (h2 : u.length ≤ 1000) (h3 : v.length ≤ 1000) : SpV spBalance [vS F, vS u, vS v] H (.int (balI F n u v)) := fun H1 e Q z E => ⟨F, n, u, v, rfl, h1, h2, h3, z⟩
theorem cnt_few {u : Wd} (h : u.length ≤ 1000) (c : Nat) : -1000 ≤ cnt u c ∧ cnt u c ≤ 1000 := by
  have a := List.count_le_length (a := c) (l := u)
  have b := List.count_le_length (a := bk c) (l := u)
  unfold cnt
  omega
theorem sideI_few (F : Wd) (x y : Nat) : -1 ≤ sideI F x y ∧ sideI F x y ≤ 1 := by
  unfold sideI side
  repeat' split
  all_goals omega
section
variable {K : PySem.W.Frag} {σ : L2.St} {H : Hp} {ta tb : TE} {E : XK} {n : Nat} {u : Wd}
theorem eu_sums (h1 : Ev ta σ H (.int (n : Int))) (h2 : Ev tb σ H (vS u)) (hn : n ≤ 6) (hl : u.length ≤ 1000) : EvU (tCall spSums [] E (tCons ta (tCons tb tNil))) σ H (sumsV n u) := fun H1 e Q z =>
  ea_cons h1 (ea_cons h2 ea_nil) H1 e _ fun H2 e2 => ⟨n, u, rfl, hn, hl, fun d G hd eG hG => z d G (fresh_back e2 hd) (e2.trans eG) hG⟩
theorem sums_at {k : Nat} (h : k < n) : atI (sumsV n u) (k : Int) = some (.int (cnt u (97 + k))) := atI_nat (by unfold sumsV; rw [List.getElem?_map, List.getElem?_range h]; rfl)
theorem small_ix {k : Nat} (h : k < 6) : atI (Str.ofString "abcdef").cps.toList (k : Int) = some (97 + k) := by
  rw [small_S]
  exact atI_nat (small_at h)
end
section
variable {P : Program} {w : World} {K : PySem.W.Frag} {mg : Str → Option Value} {base : Heap} {f : Addr} {fd : FuncData} {k : Nat}
theorem ok_balance {f1 f2 : Addr} {fd1 fd2 : FuncData} {tk : Tok} (F0 : Fun K "balance" "balance" sBalance f fd) (ml : mg "len" = none) (mr : mg "range" = none) (gS : mg "SMALL_balance" = some (.str "abcdef" tk)) (dS : Def P w K mg base (k + 2) "sums" ["many", "word"] spSums f1 fd1)
    (dD : Def P w K mg base (k + 2) "side_of" ["surface", "one", "other"] spSideOf f2 fd2) : FnOk P w K mg base CX0 (k + 3) f fd ["surface", "one", "other"] spBalance := by
  refine F0.ok scBalance (fun vs H Q E h => ?_) (fun cdv A outer s H vs Q E hr h => ?_)
  · obtain ⟨F, n, u, v, rfl, _⟩ := h
    rfl
  · obtain ⟨F, n, u, v, rfl, sf, hu, hv, z⟩ := h
    have hl := sf.small
    have h6 := sf.six
    refine ⟨_, pss_cons (ps_set (i := 3) scBalance.nd rfl (.inl rfl) (pe_op op_fdiv (pe_callB call_len (by rfl) ml PySem.boot_len (pa_cons (pv 0) pa_nil)) pe_int))
      (pss_cons (ps_set (i := 4) scBalance.nd rfl (.inl rfl) (pe_def dS hr (pa_cons (pv 3) (pa_cons (pv 1) pa_nil))))
      (pss_cons (ps_set (i := 5) scBalance.nd rfl (.inl rfl) (pe_def dS hr (pa_cons (pv 3) (pa_cons (pv 2) pa_nil))))
      (pss_cons (ps_set (i := 6) scBalance.nd rfl (.inl rfl) pe_int)
      (pss_cons (ps_for PassesOwn.never rfl (pi_range1 rfl mr (pa_cons (pv 3) pa_nil)) (pg_name (i := 7) scBalance.nd rfl (Or.inl rfl))
        (pss_one (ps_for PassesOwn.never rfl (pi_range2 (by rfl) mr (pa_cons (pe_op op_add (pv 7) pe_int) (pa_cons (pv 3) pa_nil))) (pg_name (i := 8) scBalance.nd rfl (Or.inl rfl))
          (pss_cons (ps_set (i := 9) scBalance.nd rfl (.inl rfl) (pe_op op_sub (pe_op op_mul (pe_ix ix_tup (pv 4) (pv 7) (fun _ _ => rfl)) (pe_ix ix_tup (pv 5) (pv 8) (fun _ _ => rfl))) (pe_op op_mul (pe_ix ix_tup (pv 4) (pv 8) (fun _ _ => rfl)) (pe_ix ix_tup (pv 5) (pv 7) (fun _ _ => rfl)))))
          (pss_one (ps_set (i := 6) scBalance.nd rfl (.inl rfl) (pe_op op_add (pv 6) (pe_op op_mul (pe_def dD hr (pa_cons (pv 0) (pa_cons (pe_ix ix_str (pe_glob rfl gS (v := .str "abcdef") ⟨_, rfl⟩) (pv 7) (fun _ _ => rfl)) (pa_cons (pe_ix ix_str (pe_glob rfl gS (v := .str "abcdef") ⟨_, rfl⟩) (pv 8) (fun _ _ => rfl)) pa_nil)))) (pv 9)))))))))
      (pss_one (ps_ret (pv 6))))))), ?_⟩
    have en : ((F.length : Nat) : Int) / 2 = (n : Int) := by rw [sf.len]; omega
    refine q_asg (ev_is (ev_op (ev_lenS (ev_var rfl) (by omega)) ev_c (rv_I (C := CDiv) ⟨by decide, by decide⟩)) (congrArg V.int en)) fun H1 e1 => ?_
    refine q_asgU (eu_sums (ev_var rfl) (ev_var rfl) h6 hu) fun a1 H2 n2 e2 h2 => ?_
    refine q_asgU (eu_sums (ev_var rfl) (ev_var rfl) h6 hv) fun a2 H3 n3 e3 h3 => ?_
    refine q_asg ev_c fun H4 e4 => ?_
    have g1 := e4 a1 _ (e3 a1 _ h2)
    have g2 := e4 a2 _ h3
    have eA := ((e1.trans e2).trans e3).trans e4
    refine q_forR1 (n := (n : Int)) (ea_cons (ev_var rfl) ea_nil) (by omega)
      (fun x σ' G => ∃ y7 y8 y9, σ' = [some (vS F), some (vS u), some (vS v), some (.int (n : Int)), some (.ref a1), some (.ref a2), some (.int (sumTo x (rowI F n u v))), y7, y8, y9] ∧ Ex H4 G)
      (fun G e => ⟨none, none, none, rfl, e⟩) (fun x σ' G hx hP => ?_) fun σ' G hP => ?_
    · obtain ⟨y7, y8, y9, rfl, eG⟩ := hP
      have hx' : x < n := by omega
      refine s_forR2 (lo := (x : Int) + 1) (n := (n : Int)) (ea_cons (ev_op (ev_var rfl) ev_c rv_I0) (ea_cons (ev_var rfl) ea_nil)) (by omega)
        (fun m σ' G => ∃ y8 y9, σ' = [some (vS F), some (vS u), some (vS v), some (.int (n : Int)), some (.ref a1), some (.ref a2), some (.int (sumTo x (rowI F n u v) + sumTo m fun m => termI F u v x (x + 1 + m))), some (.int (x : Int)), y8, y9] ∧ Ex H4 G)
        (fun G' e => ⟨y8, y9, by show _ = _; rw [show (sumTo 0 fun m => termI F u v x (x + 1 + m)) = 0 from rfl, Int.add_zero]; rfl, eG.trans e⟩) (fun m σ' G hm hP => ?_) fun σ' G hP => ?_
      · obtain ⟨y8, y9, rfl, eG⟩ := hP
        have ey : (x : Int) + 1 + (m : Int) = ((x + 1 + m : Nat) : Int) := by omega
        rw [ey]
        have hy : x + 1 + m < n := by omega
        have k1 := eG a1 _ g1
        have k2 := eG a2 _ g2
        have b1 := cnt_few hu (97 + x)
        have b2 := cnt_few hu (97 + (x + 1 + m))
        refine q_asg (ev_op (ev_op (ev_op (ev_var rfl) (ev_var rfl) (rv_ixT (st_of k1) (sums_at hx'))) (ev_op (ev_var rfl) (ev_var rfl) (rv_ixT (st_of k2) (sums_at hy))) (rv_I (C := CMul) (.inl ⟨by omega, by omega⟩)))
          (ev_op (ev_op (ev_var rfl) (ev_var rfl) (rv_ixT (st_of k1) (sums_at hy))) (ev_op (ev_var rfl) (ev_var rfl) (rv_ixT (st_of k2) (sums_at hx'))) (rv_I (C := CMul) (.inl ⟨by omega, by omega⟩))) rv_I0) fun G1 eg1 => ?_
        have bs := sideI_few F x (x + 1 + m)
        refine s_asg (ev_op (ev_var rfl) (ev_op (ev_call (ea_cons (ev_var rfl) (ea_cons (ev_op ev_c (ev_var rfl) (rv_ixS (by rw [small_S, S_len]; show 6 ≤ 100000; decide) (small_ix (k := x) (by omega)))) (ea_cons (ev_op ev_c (ev_var rfl) (rv_ixS (by rw [small_S, S_len]; show 6 ≤ 100000; decide) (small_ix (k := x + 1 + m) (by omega)))) ea_nil)))
          (show SpV spSideOf [vS F, vS [97 + x], vS [97 + (x + 1 + m)]] G1 (.int (sideI F x (x + 1 + m))) from fun G2 e Q z E => ⟨F, n, x, x + 1 + m, rfl, sf, hx', hy, z⟩)) (ev_var rfl) (rv_I (C := CMul) (.inl ⟨by omega, by omega⟩))) rv_I0) fun G2 eg2 => ?_
        refine ⟨some (.int ((x + 1 + m : Nat) : Int)), some (.int (cnt u (97 + x) * cnt v (97 + (x + 1 + m)) - cnt u (97 + (x + 1 + m)) * cnt v (97 + x))), ?_, (eG.trans eg1).trans eg2⟩
        have ea : sumTo x (rowI F n u v) + (sumTo (m + 1) fun m => termI F u v x (x + 1 + m)) = (sumTo x (rowI F n u v) + sumTo m fun m => termI F u v x (x + 1 + m)) + sideI F x (x + 1 + m) * (cnt u (97 + x) * cnt v (97 + (x + 1 + m)) - cnt u (97 + (x + 1 + m)) * cnt v (97 + x)) := (Int.add_assoc _ _ _).symm
        rw [ea]
        rfl
      · obtain ⟨y8, y9, rfl, eG⟩ := hP
        have e : ((n : Int) - ((x : Int) + 1)).toNat = n - (x + 1) := by omega
        rw [e]
        exact ⟨_, _, _, rfl, eG⟩
    · obtain ⟨y7, y8, y9, rfl, eG⟩ := hP
      rw [Int.toNat_natCast]
      exact s_ret (ev_var rfl) fun G1 eg => z G1 ((eA.trans eG).trans eg)
end
end RW
set_option Elab.async false
set_option linter.all false
set_option maxRecDepth 100000
set_option maxHeartbeats 4000000
namespace RW
open PySem PySem.Spec PyProof.Rows L2 SX Evl

theorem updO {H : Hp} {p a : Addr} {o : HO} (h : a ≠ p) : upd H p o a = H a := if_neg h
/-! ### the tape, and what a draw keeps -/
structure Tp (H : Hp) (t ca : Addr) : Prop where
  ne : ca ≠ t
  cs : ∃ cs : List Int, H ca = some (.lst (cs.map V.int)) ∧ cs.length ≤ 1000
  at_ : ∃ x y z : Int, H t = some (.lst [.ref ca, .int x, .int y, .int z])
structure Dr (t ca : Addr) (H H' : Hp) : Prop where
  ex : ∀ a o, a ≠ t → H a = some o → H' a = some o
  tp : Tp H' t ca
theorem Tp.ex {H H' : Hp} {t ca : Addr} (T : Tp H t ca) (e : Ex H H') : Tp H' t ca := by
  obtain ⟨cs, h1, h2⟩ := T.cs
  obtain ⟨x, y, z, h3⟩ := T.at_
  exact ⟨T.ne, ⟨cs, e _ _ h1, h2⟩, ⟨x, y, z, e _ _ h3⟩⟩
theorem Tp.dr {H H' : Hp} {t ca : Addr} (T : Tp H t ca) (e : Ex H H') : Dr t ca H H' := ⟨fun a o _ h => e a o h, T.ex e⟩
theorem Dr.trans {H H1 H2 : Hp} {t ca : Addr} (a : Dr t ca H H1) (b : Dr t ca H1 H2) : Dr t ca H H2 := ⟨fun x o n h => b.ex x o n (a.ex x o n h), b.tp⟩
theorem Dr.plus {H H1 H2 : Hp} {t ca : Addr} (a : Dr t ca H H1) (b : Ex H1 H2) : Dr t ca H H2 := a.trans (a.tp.dr b)
theorem Dr.fresh {H H1 : Hp} {t ca p : Addr} (a : Dr t ca H H1) (h : H1 p = none) : p ≠ t := fun e => by
  obtain ⟨x, y, z, h3⟩ := a.tp.at_
  rw [e, h3] at h
  cases h
theorem Tp.fresh {H1 : Hp} {t ca p : Addr} (T : Tp H1 t ca) (h : H1 p = none) : p ≠ t := fun e => by
  obtain ⟨x, y, z, h3⟩ := T.at_
  rw [e, h3] at h
  cases h
theorem Dr.back {H H1 : Hp} {t ca p : Addr} (a : Dr t ca H H1) (h : H1 p = none) : H p = none := by
  cases q : H p with
  | none => rfl
  | some o => exact absurd ((a.ex p o (a.fresh h) q).symm.trans h) (by simp)
/-- a cell of one's own is written -/
theorem Dr.mut {H H' : Hp} {t ca p : Addr} {o : HO} (d : Dr t ca H H') (h : H p = none) (hp : p ≠ t) (hc : p ≠ ca) : Dr t ca H (upd H' p o) := by
  refine ⟨fun a u n ha => ?_, d.tp.ne, ?_, ?_⟩
  · have : a ≠ p := fun e => by
      rw [e, h] at ha
      cases ha
    rw [updO this]
    exact d.ex a u n ha
  · obtain ⟨cs, h1, h2⟩ := d.tp.cs
    exact ⟨cs, by rw [updO (Ne.symm hc)]; exact h1, h2⟩
  · obtain ⟨x, y, z, h3⟩ := d.tp.at_
    exact ⟨x, y, z, by rw [updO (Ne.symm hp)]; exact h3⟩
theorem Tp.set {H : Hp} {t ca : Addr} {xs : List V} (T : Tp H t ca) (h : ∃ x y z : Int, xs = [.ref ca, .int x, .int y, .int z]) : Dr t ca H (upd H t (.lst xs)) := by
  obtain ⟨x, y, z, rfl⟩ := h
  refine ⟨fun a u n ha => by rw [updO n]; exact ha, T.ne, ?_, ⟨x, y, z, upd_same⟩⟩
  obtain ⟨cs, h1, h2⟩ := T.cs
  exact ⟨cs, by rw [updO T.ne]; exact h1, h2⟩

/-! ### _law_tape -/
def spTape (K : PySem.W.Frag) : Sp := fun vs H Q _ => ∃ (a : Addr) (ns : List Int), vs = [.ref a] ∧ SqL K H a (ns.map V.int) ∧ ∀ t ca H', H t = none → Ex H H' → Tp H' t ca → Q (.ref t) H'
theorem cut63 (ns : List Int) : ∃ cs : List Int, cutV (ns.map V.int) none (some 63) = cs.map V.int ∧ cs.length ≤ 1000 := by
  refine ⟨(ns.drop (HT.sIx ns.length 0 none)).take (HT.sIx ns.length ns.length (some 63) - HT.sIx ns.length 0 none), ?_, ?_⟩
  · unfold cutV
    rw [List.length_map, List.map_take, List.map_drop]
  · rw [List.length_take]
    have : HT.sIx ns.length ns.length (some 63) ≤ 63 := by
      simp [HT.sIx]
      omega
    omega
section
variable {P : Program} {w : World} {K : PySem.W.Frag} {mg : Str → Option Value} {base : Heap} {f : Addr} {fd : FuncData} {k : Nat}
theorem ok_tape (F0 : Fun K "_law_tape" "_law_tape" sTape f fd) (ml : mg "list" = none) : FnOk P w K mg base CX0 (k + 1) f fd ["_law_script"] (spTape K) := by
  refine F0.ok scTape (fun vs H Q E h => ?_) (fun cdv A outer s H vs Q E hr h => ?_)
  · obtain ⟨a, ns, rfl, _⟩ := h
    rfl
  · obtain ⟨a, ns, rfl, hS, z⟩ := h
    refine ⟨_, pss_one (ps_ret (pe_lst (pa_cons (pe_callTy call_list_of (by rfl) ml boot_list (pa_cons (pe_slice sl_list (pv 0) po_none (po_some pe_int)) pa_nil)) (pa_cons pe_int (pa_cons pe_int (pa_cons pe_int pa_nil)))))), ?_⟩
    refine ⟨.ref a, rfl, 63, rfl, a, _, rfl, hS, fun b nb => ?_⟩
    refine ⟨b, _, rfl, .inl (sq_of upd_same), fun c nc => ?_⟩
    refine ⟨by show 4 ≤ sizeLine; decide, fun t nt => ?_⟩
    have e1 : Ex H (upd H b (.lst (cutV (ns.map V.int) none (some 63)))) := Ex.new nb
    have e2 := e1.trans (Ex.new (o := .lst (cutV (ns.map V.int) none (some 63))) nc)
    have e3 := e2.trans (Ex.new (o := .lst [.ref c, .int 0, .int 0, .int 0]) nt)
    obtain ⟨cs, h1, h2⟩ := cut63 ns
    refine z t c _ (fresh_back e2 nt) e3 ⟨fun e => ?_, ⟨cs, ?_, h2⟩, ⟨0, 0, 0, upd_same⟩⟩
    · rw [← e, upd_same] at nt
      cases nt
    · have nct : c ≠ t := fun e => by
        rw [← e, upd_same] at nt
        cases nt
      rw [updO nct, upd_same, h1]
end

/-! ### _law_draw -/
def spDraw : Sp := fun vs H Q _ => ∃ (t ca : Addr) (n : Int), vs = [.ref t, .int n] ∧ Tp H t ca ∧ 0 < n ∧ n ≤ 1000 ∧ ∀ r H', 0 ≤ r → r < n → Dr t ca H H' → Q (.int r) H'
theorem draw_go {σ : L2.St} {H : Hp} {Q : VK} {ta : TA} {E : XK} {t ca : Addr} {n : Int} (ha : EvA ta σ H [.ref t, .int n]) (T : Tp H t ca) (hn : 0 < n) (hn2 : n ≤ 1000) (k : ∀ r H', 0 ≤ r → r < n → Dr t ca H H' → Q (.int r) H') : tCall spDraw [] E ta σ H Q :=
  ha H (Ex.refl H) _ fun H1 e1 => ⟨t, ca, n, rfl, T.ex e1, hn, hn2, fun r H' h0 h1 d => k r H' h0 h1 ((T.dr e1).trans d)⟩
section
variable {P : Program} {w : World} {K : PySem.W.Frag} {mg : Str → Option Value} {base : Heap} {f : Addr} {fd : FuncData} {k : Nat}
theorem ok_draw (F0 : Fun K "_law_draw" "_law_draw" sDraw f fd) (ml : mg "len" = none) : FnOk P w K mg base CX0 (k + 1) f fd ["_law_tape_here", "_law_many"] spDraw := by
  refine F0.ok scDraw (fun vs H Q E h => ?_) (fun cdv A outer s H vs Q E hr h => ?_)
  · obtain ⟨t, ca, n, rfl, _⟩ := h
    rfl
  · obtain ⟨t, ca, n, rfl, T, hn, hn2, z⟩ := h
    refine ⟨_, pss_cons (ps_asg (pe_op op_add (pe_ix ix_list (pv 0) pe_int (fun _ _ => rfl)) pe_int) (pg_sub (pv 0) pe_int set_list))
      (pss_cut (ps_if (pt_cmpR op_eq (pe_ix ix_list (pv 0) pe_int (fun _ _ => rfl)) pe_int (nomark _))
        (pss_cons (ps_set (i := 2) scDraw.nd rfl (.inl rfl) (pe_ix ix_list (pv 0) pe_int (fun _ _ => rfl)))
        (pss_cons (ps_asg (pe_op op_add (pv 2) pe_int) (pg_sub (pv 0) pe_int set_list))
        (pss_cons (ps_set (i := 3) scDraw.nd rfl (.inl rfl) pe_int)
        (pss_cut (ps_if (pt_cmpR op_gt (pe_callB call_len_seq (by rfl) ml PySem.boot_len (pa_cons (pe_ix ix_list (pv 0) pe_int (fun _ _ => rfl)) pa_nil)) pe_int (nomark _))
          (pss_one (ps_set (i := 3) scDraw.nd rfl (.inl rfl) (pe_ix ix_list (pe_ix ix_list (pv 0) pe_int (fun _ _ => rfl)) (pe_op op_mod (pv 2) (pe_callB call_len_seq (by rfl) ml PySem.boot_len (pa_cons (pe_ix ix_list (pv 0) pe_int (fun _ _ => rfl)) pa_nil))) (fun _ _ => rfl)))) pss_nil)
        (pss_cons (ps_if (PW.pt (pw_or (pt_cmpR op_lt (pv 3) (pe_op op_pow pe_int pe_int) (nomark _)) (pw_or1 (pt_cmpR op_ge (pv 2) (pe_callB call_len_seq (by rfl) ml PySem.boot_len (pa_cons (pe_ix ix_list (pv 0) pe_int (fun _ _ => rfl)) pa_nil)) (nomark _)))))
          (pss_cons (ps_set (i := 4) scDraw.nd rfl (.inl rfl) (pe_op op_mod (pe_op op_mul (pe_op op_add (pe_op op_mod (pv 3) pe_int) (pe_op op_mul pe_int (pe_ix ix_list (pv 0) pe_int (fun _ _ => rfl)))) pe_int) pe_int))
          (pss_cons (ps_set (i := 4) scDraw.nd rfl (.inl rfl) (pe_op op_mod (pe_op op_mul (pe_op op_add (pe_op op_fdiv (pv 4) pe_int) (pe_op op_mul pe_int (pe_ix ix_list (pv 0) pe_int (fun _ _ => rfl)))) pe_int) pe_int))
          (pss_one (ps_ret (pe_op op_mod (pe_op op_fdiv (pv 4) pe_int) (pv 1)))))) pss_nil)
        (pss_one (ps_asg (pv 3) (pg_sub (pv 0) pe_int set_list)))))))) pss_nil)
      (pss_cons (ps_set (i := 5) scDraw.nd rfl (.inl rfl) (pe_op op_mod (pe_ix ix_list (pv 0) pe_int (fun _ _ => rfl)) (pv 1)))
      (pss_cons (ps_asg (pe_op op_fdiv (pe_ix ix_list (pv 0) pe_int (fun _ _ => rfl)) (pv 1)) (pg_sub (pv 0) pe_int set_list))
      (pss_one (ps_ret (pv 5)))))), ?_⟩
    obtain ⟨x, y, c, h0⟩ := T.at_
    refine q_setL (j := 3) h0 (ev_op (ev_op (ev_var rfl) ev_c (rv_ixL (sq_of h0) (atI_nat (j := 3) rfl))) ev_c rv_I0) (ev_var rfl) ev_c (by show 3 < 4; decide) fun H1 e1 => ?_
    have d1 : Dr t ca H (upd H1 t (.lst ([.ref ca, .int x, .int y, .int c].set 3 (.int (c + 1))))) := (T.dr e1).trans ((T.ex e1).set ⟨_, _, _, rfl⟩)
    generalize upd H1 t (.lst ([.ref ca, .int x, .int y, .int c].set 3 (.int (c + 1)))) = G1 at *
    refine q_cut (M := fun σ' G => (∃ o2 o3 o4, σ' = [some (.ref t), some (.int n), o2, o3, o4, none]) ∧ Dr t ca H G) ?_ ?_
    · obtain ⟨x, y, c, h1⟩ := d1.tp.at_
      refine s_when (et_test (ev_op (ev_op (ev_var rfl) ev_c (rv_ixL (sq_of h1) (atI_nat (j := 2) rfl))) ev_c (rv_eq rfl))) (fun _ G2 e2 => ?_) (fun _ G2 e2 => ⟨⟨_, _, _, rfl⟩, d1.plus e2⟩)
      have d2 := d1.plus e2
      have h2 := e2 _ _ h1
      refine q_asg (ev_op (ev_var rfl) ev_c (rv_ixL (sq_of h2) (atI_nat (j := 1) rfl))) fun G3 e3 => ?_
      have d3 := d2.plus e3
      have h3 := e3 _ _ h2
      refine q_setL (j := 1) h3 (ev_op (ev_var rfl) ev_c rv_I0) (ev_var rfl) ev_c (by show 1 < 4; decide) fun G4 e4 => ?_
      have d4 := d3.trans ((d3.tp.dr e4).trans ((d3.tp.ex e4).set (xs := [.ref ca, .int x, .int y, .int c].set 1 (.int (x + 1))) ⟨_, _, _, rfl⟩))
      generalize upd G4 t (.lst ([.ref ca, .int x, .int y, .int c].set 1 (.int (x + 1)))) = G5 at *
      refine q_asg ev_c fun G6 e6 => ?_
      have d6 := d4.plus e6
      refine q_cut (M := fun σ' G => (∃ v : Int, σ' = [some (.ref t), some (.int n), some (.int x), some (.int v), none, none]) ∧ Dr t ca H G) ?_ ?_
      · obtain ⟨x', y', c', h6⟩ := d6.tp.at_
        obtain ⟨cs, hc, lc⟩ := d6.tp.cs
        have evl : ∀ {σ : L2.St} {G : Hp}, σ[0]? = some (some (.ref t)) → Ex G6 G → Ev (tCB (fun vs H Q => ∃ p ys, vs = [.ref p] ∧ (SqL K H p ys ∨ SqT K H p ys) ∧ Q (.int (ys.length : Nat)) H) (tCons (tOp (rIxL K) (tVar 0) (tC (.int 0))) tNil)) σ G (.int ((cs.length : Nat) : Int)) := fun hs e H1 e1 Q q =>
          (ev_op (ev_var hs) ev_c (rv_ixL (sq_of (e _ _ h6)) (atI_nat (j := 0) rfl)) : Ev _ _ _ (.ref ca)) H1 e1 _ fun H2 e2 => ⟨ca, cs.map V.int, rfl, .inl (sq_of (e2 _ _ (e1 _ _ (e _ _ hc)))), by rw [List.length_map]; exact q H2 e2⟩
        refine s_if (et_test (ev_op (evl rfl (Ex.refl _)) ev_c rv_I0)) (fun hb G7 e7 => ?_) (fun _ G7 e7 => ⟨⟨7, rfl⟩, d6.plus e7⟩)
        have hp : (0 : Int) < (cs.length : Int) := of_decide_eq_true hb
        have m1 := Int.emod_nonneg x (show (cs.length : Int) ≠ 0 by omega)
        have m2 := Int.emod_lt_of_pos x hp
        have m3 : (x % (cs.length : Int)).toNat < cs.length := by omega
        have m4 : atI (cs.map V.int) (x % (cs.length : Int)) = some (V.int cs[(x % (cs.length : Int)).toNat]) := by
          have := atI_nat (xs := cs.map V.int) (j := (x % (cs.length : Int)).toNat) (v := V.int cs[(x % (cs.length : Int)).toNat]) (by rw [List.getElem?_map, List.getElem?_eq_getElem m3]; rfl)
          rw [Int.toNat_of_nonneg m1] at this
          exact this
        exact s_asg (ev_op (ev_op (ev_var rfl) ev_c (rv_ixL (sq_of (e7 _ _ h6)) (atI_nat (j := 0) rfl))) (ev_op (ev_var rfl) (evl rfl e7) (rv_I hp)) (rv_ixL (sq_of (e7 _ _ hc)) m4)) fun G8 e8 => ⟨⟨_, rfl⟩, d6.plus (e7.trans e8)⟩
      · intro σ' G7 hM
        obtain ⟨⟨v, rfl⟩, d7⟩ := hM
        obtain ⟨x', y', c', h7⟩ := d7.tp.at_
        obtain ⟨cs, hc, lc⟩ := d7.tp.cs
        have evl : ∀ {σ : L2.St} {G : Hp}, σ[0]? = some (some (.ref t)) → Ex G7 G → Ev (tCB (fun vs H Q => ∃ p ys, vs = [.ref p] ∧ (SqL K H p ys ∨ SqT K H p ys) ∧ Q (.int (ys.length : Nat)) H) (tCons (tOp (rIxL K) (tVar 0) (tC (.int 0))) tNil)) σ G (.int ((cs.length : Nat) : Int)) := fun hs e H1 e1 Q q =>
          (ev_op (ev_var hs) ev_c (rv_ixL (sq_of (e _ _ h7)) (atI_nat (j := 0) rfl)) : Ev _ _ _ (.ref ca)) H1 e1 _ fun H2 e2 => ⟨ca, cs.map V.int, rfl, .inl (sq_of (e2 _ _ (e1 _ _ (e _ _ hc)))), by rw [List.length_map]; exact q H2 e2⟩
        refine q_when (et_or (et_test (ev_op (ev_var rfl) (ev_op ev_c ev_c (rv_I (C := CPow) ⟨by decide, by decide, by decide⟩)) rv_I0)) fun _ => et_test (ev_op (ev_var rfl) (evl rfl (Ex.refl _)) rv_I0)) (fun _ G8 e8 => ?_) (fun _ G8 e8 => ?_)
        · have h8 := e8 _ _ h7
          refine q_asg (ev_op (ev_op (ev_op (ev_op (ev_var rfl) ev_c (rv_I (by decide))) (ev_op ev_c (ev_op (ev_var rfl) ev_c (rv_ixL (sq_of h8) (atI_nat (j := 3) rfl))) (rv_I (C := CMul) (.inl ⟨by decide, by decide⟩))) rv_I0) ev_c (rv_I (C := CMul) (.inr ⟨by decide, by decide⟩))) ev_c (rv_I (by decide))) fun G9 e9 => ?_
          have h9 := e9 _ _ h8
          refine q_asg (ev_op (ev_op (ev_op (ev_op (ev_var rfl) ev_c (rv_I (C := CDiv) ⟨by decide, by decide⟩)) (ev_op ev_c (ev_op (ev_var rfl) ev_c (rv_ixL (sq_of h9) (atI_nat (j := 3) rfl))) (rv_I (C := CMul) (.inl ⟨by decide, by decide⟩))) rv_I0) ev_c (rv_I (C := CMul) (.inr ⟨by decide, by decide⟩))) ev_c (rv_I (by decide))) fun G10 e10 => ?_
          refine s_ret (ev_op (ev_op (ev_var rfl) ev_c (rv_I (C := CDiv) ⟨by decide, by decide⟩)) (ev_var rfl) (rv_I hn)) fun G11 e11 => ?_
          exact z _ _ (Int.emod_nonneg _ (by omega)) (Int.emod_lt_of_pos _ hn) (d7.plus (((e8.trans e9).trans e10).trans e11))
        · have h8 := e8 _ _ h7
          refine s_setL (j := 2) h8 (ev_var rfl) (ev_var rfl) ev_c (by show 2 < 4; decide) fun G9 e9 => ⟨⟨_, _, _, rfl⟩, ?_⟩
          have d8 := d7.plus e8
          exact d8.trans ((d8.tp.dr e9).trans ((d8.tp.ex e9).set ⟨_, _, _, rfl⟩))
    · intro σ' G2 hM
      obtain ⟨⟨o2, o3, o4, rfl⟩, d2⟩ := hM
      obtain ⟨x, y, c, h2⟩ := d2.tp.at_
      refine q_asg (ev_op (ev_op (ev_var rfl) ev_c (rv_ixL (sq_of h2) (atI_nat (j := 2) rfl))) (ev_var rfl) (rv_I hn)) fun G3 e3 => ?_
      have h3 := e3 _ _ h2
      have d3 := d2.plus e3
      refine q_setL (j := 2) h3 (ev_op (ev_op (ev_var rfl) ev_c (rv_ixL (sq_of h3) (atI_nat (j := 2) rfl))) (ev_var rfl) (rv_I (C := CDiv) ⟨hn, by omega⟩)) (ev_var rfl) ev_c (by show 2 < 4; decide) fun G4 e4 => ?_
      have d4 := d3.trans ((d3.tp.dr e4).trans ((d3.tp.ex e4).set (xs := [.ref ca, .int x, .int y, .int c].set 2 (.int (y / n))) ⟨_, _, _, rfl⟩))
      refine s_ret (ev_var rfl) fun G5 e5 => ?_
      exact z _ _ (Int.emod_nonneg _ (by omega)) (Int.emod_lt_of_pos _ hn) (d4.plus e5)
end
end RW
set_option Elab.async false
set_option linter.all false
set_option maxRecDepth 100000
set_option maxHeartbeats 4000000
namespace RW
open PySem PySem.Spec PyProof.Rows L2 SX Evl

/-! ### _law_back -/
theorem spLBack_V {H : Hp} {u : Wd} (hu : ∀ c ∈ u, isLK 6 c) (hl : u.length ≤ 1000) : SpV spBack [vS u] H (vS (bw u)) := spBack_V hu hl
section
variable {P : Program} {w : World} {K : PySem.W.Frag} {mg : Str → Option Value} {base : Heap}
theorem ok_lback {f : Addr} {fd : FuncData} {k : Nat} (F : Fun K "_law_back" "_law_back" sLBack f fd) : FnOk P w K mg base CX0 (k + 1) f fd ["_law_word"] spBack := by
  refine F.ok scLBack (fun vs H Q E h => ?_) (fun cdv A outer s H vs Q E hr h => ?_)
  · obtain ⟨u, rfl, _⟩ := h
    rfl
  · obtain ⟨u, rfl, hu, hl, q⟩ := h
    refine ⟨_, pss_one (ps_ret (pe_join pe_str (pe_lc (own := [("_law_sign", 1)]) (g := gName 1) rfl scLBack.nd (pi_str (pe_revS (pv 0))) (blkOk_by (N := ["_law_word", "_law_sign"]) (sc := defScope sLBack) (by decide +kernel))
      (fun _ _ _ _ _ => pg_name (i := 1) scLBack.nd rfl (Or.inl rfl)) (fun _ _ _ _ _ => pts_nil) (fun _ _ _ _ _ => pe_ifExp (pt_cmpR op_in_sign (pv 1) pe_str rfl) (pe_lower (pv 1)) (pe_upper (pv 1)))))), ?_⟩
    have hr2 : Ev (tRevS (tVar 0)) (start ["_law_word", "_law_sign"] [vS u]) H (vS u.reverse) := fun H1 e Q q => ⟨_, rfl, S u, rfl, by rw [S_len]; exact sz_of (by omega), q H1 (Ex.refl H1)⟩
    refine s_ret (ev_joinL (ws := (bw u).map fun c => [c]) nil_S (el_mapS (u := u.reverse) _ hr2 ?_ ?_ (fun _ => rfl) (fun i c y H1 e hc hy => ?_)) ?_) fun H1 e1 => ?_
    · unfold bw
      rw [List.length_map, List.length_map, List.length_map]
    · rw [List.length_reverse]
      omega
    · have e0 : y = vS [bk c] := by
        unfold bw at hy
        rw [List.getElem?_map, List.getElem?_map, List.getElem?_map, hc] at hy
        exact (Option.some.inj hy).symm
      subst e0
      have hm : c ∈ u := List.mem_reverse.mp (List.mem_of_getElem? hc)
      have hk := hu c hm
      have e : (Str.ofString "ABCDEF").cps.toList = [65, 66, 67, 68, 69, 70] := by rw [big_S]
      refine ev_if (b := decide (c ∈ (Str.ofString "ABCDEF").cps.toList)) (et_test (ev_op (ev_var rfl) ev_c fun H2 e2 Q q => ⟨c, _, rfl, rfl, q H2 (Ex.refl _)⟩)) (fun hb => ?_) (fun hb => ?_)
      · have h2 := of_decide_eq_true hb
        rw [e] at h2
        have h3 : ¬ c ∈ [97, 98, 99, 100, 101, 102] := by
          simp only [List.mem_cons, List.not_mem_nil, or_false] at h2 ⊢
          omega
        have e1 := lo_S hk h3
        intro H2 e2 Q q
        refine ⟨_, rfl, ⟨_, rfl⟩, S [c], rfl, rfl, by show 1 ≤ 5592405; decide, ?_⟩
        rw [e1]
        exact q H2 (Ex.refl _)
      · have h2 := of_decide_eq_false hb
        rw [e] at h2
        have h3 : c ∈ [97, 98, 99, 100, 101, 102] := by
          simp only [List.mem_cons, List.not_mem_nil, or_false] at h2 ⊢
          unfold isLK at hk
          omega
        have e1 := up_S hk h3
        intro H2 e2 Q q
        refine ⟨_, rfl, ⟨_, rfl⟩, S [c], rfl, rfl, by show 1 ≤ 5592405; decide, ?_⟩
        rw [e1]
        exact q H2 (Ex.refl _)
    · rw [flat_one]
      unfold bw
      rw [List.length_map, List.length_reverse]
      omega
    · rw [flat_one]
      exact q H1 e1
end

/-! ### _law_any_row -/
def spAnyRow : Sp := fun vs H Q _ => ∃ (t ca : Addr), vs = [.ref t, .int 6] ∧ Tp H t ca ∧ ∀ F n H', Sf F n → Dr t ca H H' → Q (vS F) H'
/-- over a tuple made for it -/
theorem s_forNT {K : PySem.W.Frag} {σ : L2.St} {H : Hp} {D : Ends} {tu : TS} {g : TG} {xs : List V} {tl : TE} (h : EvU tl σ H xs) (Pv : Addr → Nat → L2.St → Hp → Prop) (h0 : ∀ p H1, H p = none → Ex H H1 → H1 p = some (.tup xs) → Pv p 0 σ H1) (hl : ∀ p i σ' H', i ≤ xs.length → Pv p i σ' H' → SqT K H' p xs)
    (hs : ∀ p i x σ' H', xs[i]? = some x → Pv p i σ' H' → g x σ' H' fun σ2 H2 => tu { D with nx := Pv p (i + 1), ct := Pv p (i + 1), bk := D.nx } σ2 H2) (hd : ∀ p σ' H', Pv p xs.length σ' H' → D.nx σ' H') : tFor (iTup K tl) g tu D σ H :=
  h H (Ex.refl H) _ fun p H1 hp e h1 => ⟨p, rfl, ⟨xs, st_of h1⟩, for_tup (Pv p) (h0 p H1 hp e h1) (hl p) (hs p) (hd p)⟩
def oneL (u : Wd) : List V := u.map fun c => vS [c]
theorem oneL_len (u : Wd) : (oneL u).length = u.length := by
  unfold oneL
  rw [List.length_map]
theorem oneL_flat (u : Wd) : oneL u = ((u.map fun c => [c]) : List Wd).map vS := map_one u
theorem ins_oneL (u : Wd) (c i : Nat) : (oneL u).take i ++ [vS [c]] ++ (oneL u).drop i = oneL (u.take i ++ [c] ++ u.drop i) := by
  unfold oneL
  rw [List.map_append, List.map_append, List.map_take, List.map_drop]
  rfl
theorem ins_perm (u : Wd) (c i : Nat) : (u.take i ++ [c] ++ u.drop i).Perm (c :: u) := by
  have h : (u.take i ++ [c] ++ u.drop i).Perm ([c] ++ u.take i ++ u.drop i) := List.Perm.append_right _ List.perm_append_comm
  have e : [c] ++ u.take i ++ u.drop i = c :: u := by
    rw [List.append_assoc, List.take_append_drop]
    rfl
  rw [e] at h
  exact h
section
variable {P : Program} {w : World} {K : PySem.W.Frag} {mg : Str → Option Value} {base : Heap}
/-- the row so far: the pairs below i, and of the pair i so many -/
structure Rw (F : Wd) (i j : Nat) : Prop where
  nd : F.Nodup
  mem : ∀ c, c ∈ F ↔ isLK i c ∨ (c = 97 + i ∧ 1 ≤ j) ∨ (c = 65 + i ∧ 2 ≤ j)
  len : F.length = 2 * i + j
theorem Rw.add {F : Wd} {i j c r : Nat} (h : Rw F i j) (hi : i < 6) (hj : (j = 0 ∧ c = 97 + i) ∨ (j = 1 ∧ c = 65 + i)) : Rw (F.take r ++ [c] ++ F.drop r) i (j + 1) := by
  have p := ins_perm F c r
  have hc : c ∉ F := fun hm => by
    have := (h.mem c).mp hm
    unfold isLK at this
    omega
  refine ⟨p.nodup_iff.mpr (List.nodup_cons.mpr ⟨hc, h.nd⟩), fun d => ?_, ?_⟩
  · rw [p.mem_iff, List.mem_cons, h.mem d]
    unfold isLK
    omega
  · rw [p.length_eq, List.length_cons, h.len]
    omega
theorem Rw.next {F : Wd} {i : Nat} (h : Rw F i 2) : Rw F (i + 1) 0 := by
  refine ⟨h.nd, fun c => ?_, by rw [h.len]; omega⟩
  rw [h.mem c]
  unfold isLK
  omega
theorem ok_anyRow {f f1 : Addr} {fd fd1 : FuncData} {k : Nat} (F0 : Fun K "_law_any_row" "_law_any_row" sAnyRow f fd) (ml : mg "len" = none) (mr : mg "range" = none) (dD : Def P w K mg base (k + 2) "_law_draw" ["_law_tape_here", "_law_many"] spDraw f1 fd1) :
    FnOk P w K mg base CX0 (k + 3) f fd ["_law_tape_here", "_law_most"] spAnyRow := by
  refine F0.ok scAnyRow (fun vs H Q E h => ?_) (fun cdv A outer s H vs Q E hr h => ?_)
  · obtain ⟨t, ca, rfl, _⟩ := h
    rfl
  · obtain ⟨t, ca, rfl, T, z⟩ := h
    refine ⟨_, pss_cons (ps_set (i := 2) scAnyRow.nd rfl (.inl rfl) (pe_lst pa_nil))
      (pss_cons (ps_for PassesOwn.never rfl (pi_range1 rfl mr (pa_cons (pe_op op_add pe_int (pe_def dD hr (pa_cons (pv 0) (pa_cons (pv 1) pa_nil)))) pa_nil)) (pg_name (i := 3) scAnyRow.nd rfl (Or.inl rfl))
        (pss_one (ps_for PassesOwn.never rfl (pi_tup (pe_tup (pa_cons (pe_ix ix_str pe_str (pv 3) (fun _ _ => rfl)) (pa_cons (pe_ix ix_str pe_str (pv 3) (fun _ _ => rfl)) pa_nil)))) (pg_name (i := 4) scAnyRow.nd rfl (Or.inl rfl))
          (pss_one (ps_expr (pe_bm PySem.F.plainAttrs_list PySem.F.slot_list_insert PySem.F.type_list_insert mt_insert (pv 2) (pa_cons (pe_def dD hr (pa_cons (pv 0) (pa_cons (pe_op op_add (pe_callB call_len_seq (by rfl) ml PySem.boot_len (pa_cons (pv 2) pa_nil)) pe_int) pa_nil))) (pa_cons (pv 4) pa_nil))))))))
      (pss_one (ps_ret (pe_join pe_str (pv 2))))), ?_⟩
    refine q_asgL (el_lst ea_nil (by show 0 ≤ 100000; decide)) fun r H1 nr e1 hr1 => ?_
    have d1 := T.dr e1
    have nrt : r ≠ t := T.fresh nr
    have nrc : r ≠ ca := fun e => by
      obtain ⟨cs, hc, _⟩ := T.cs
      rw [← e, nr] at hc
      cases hc
    show tFor (iRng1 _) _ _ _ _ _
    show tCall spDraw [] E0 _ _ _ _
    refine draw_go (ca := ca) (ea_cons (ev_var rfl) (ea_cons (ev_var rfl) ea_nil)) d1.tp (by decide) (by decide) fun m G h0 h6 dm => ?_
    refine ⟨1, m, rfl, rfl, ⟨1 + m, rfl, by omega, by omega, ?_⟩⟩
    refine for_range (lo := 0) (n := (1 + m).toNat) (fun i σ' G => ∃ y3 y4 F, σ' = [some (.ref t), some (.int 6), some (.ref r), y3, y4] ∧ Dr t ca H G ∧ G r = some (.lst (oneL F)) ∧ Rw F i 0) ?_ (fun i σ' G hi hP => ?_) fun σ' G hP => ?_
    · refine ⟨none, none, [], rfl, d1.trans dm, dm.ex r _ nrt hr1, List.nodup_nil, fun c => ?_, rfl⟩
      unfold isLK
      simp
    · obtain ⟨y3, y4, F, rfl, d, hF, R⟩ := hP
      have hi6 : i < 6 := by omega
      show tFor _ _ _ _ [some (.ref t), some (.int 6), some (.ref r), some (.int ((0 : Int) + (i : Int))), y4] G
      rw [Int.zero_add]
      refine s_forNT (K := K) (xs := [vS [97 + i], vS [65 + i]]) (eu_tup (ea_cons (ev_op ev_c (ev_var rfl) (rv_ixS (by rw [small_S, S_len]; show 6 ≤ 100000; decide) (small_ix hi6)))
        (ea_cons (ev_op ev_c (ev_var rfl) (rv_ixS (by rw [big_S, S_len]; show 6 ≤ 100000; decide) (by rw [big_S]; exact atI_nat (by match i, hi6 with
          | 0, _ => rfl
          | 1, _ => rfl
          | 2, _ => rfl
          | 3, _ => rfl
          | 4, _ => rfl
          | 5, _ => rfl)))) ea_nil)) (by show 2 ≤ 100000; decide))
        (fun p j σ' G => p ≠ t ∧ p ≠ r ∧ G p = some (.tup [vS [97 + i], vS [65 + i]]) ∧ ∃ y4 F, σ' = [some (.ref t), some (.int 6), some (.ref r), some (.int (i : Int)), y4] ∧ Dr t ca H G ∧ G r = some (.lst (oneL F)) ∧ Rw F i j)
        (fun p H3 np e3 h3 => ⟨d.fresh (H1 := G) np, (fun e => by rw [e, hF] at np; cases np), h3, y4, F, rfl, d.plus e3, e3 _ _ hF, R⟩) (fun p j σ' G _ hP => st_of hP.2.2.1) (fun p j x σ' G hx hP => ?_) fun p σ' G hP => ?_
      · obtain ⟨npt, npr, gp, y4, F, rfl, d, hF, R⟩ := hP
        have hx2 : ∃ c, x = vS [c] ∧ ((j = 0 ∧ c = 97 + i) ∨ (j = 1 ∧ c = 65 + i)) := by
          match j, hx with
          | 0, hx => exact ⟨97 + i, (Option.some.inj hx).symm, .inl ⟨rfl, rfl⟩⟩
          | 1, hx => exact ⟨65 + i, (Option.some.inj hx).symm, .inr ⟨rfl, rfl⟩⟩
          | j + 2, hx => exact absurd hx (by simp)
        obtain ⟨c, rfl, hc⟩ := hx2
        have lF : F.length ≤ 20 := by
          rw [R.len]
          omega
        refine ⟨.ref r, rfl, Or.inl ⟨rfl, _, sq_of hF⟩, ?_⟩
        show tCall spDraw [] E0 _ _ _ _
        refine draw_go (ca := ca) (n := ((oneL F).length : Int) + 1) (ea_cons (ev_var rfl) (ea_cons (ev_op (ev_len (K := K) (ev_var rfl) (sq_of hF)) ev_c rv_I0) ea_nil)) d.tp (by omega) (by rw [oneL_len]; omega) fun s G2 s0 s1 d2 => ?_
        refine ⟨vS [c], rfl, r, oneL F, s, vS [c], rfl, rfl, d2.ex r _ nrt hF, by rw [oneL_len]; exact sz_lt (by omega), s0, by rw [oneL_len] at s1; omega, ?_⟩
        rw [ins_oneL]
        refine ⟨npt, npr, ?_, some (vS [c]), _, rfl, (d.trans d2).mut nr nrt nrc, upd_same, R.add hi6 hc⟩
        rw [updO npr]
        exact d2.ex p _ npt gp
      · obtain ⟨npt, npr, gp, y4, F, rfl, d, hF, R⟩ := hP
        exact ⟨_, _, F, rfl, d, hF, Rw.next R⟩
    · obtain ⟨y3, y4, F, rfl, d, hF, R⟩ := hP
      have hl := R.len
      show tRet (tM1 (rJoin K) (tC (.str "")) (tVar 2)) { nx := fun _ H' => Q .non H', rt := Q } _ G
      refine s_ret (v := vS F) (D := { nx := fun _ G => Q .non G, rt := Q }) (ev_is (v := vS (F.map fun c => [c]).flatten) (fun H2 e2 Q q => ?_) (by rw [flat_one])) fun H3 e3 => z F (1 + m).toNat H3 ⟨R.nd, fun c => ?_, by omega, by omega, by rw [hl]; omega⟩ (d.plus e3)
      · refine ⟨⟨_, rfl⟩, .ref r, rfl, S [], r, (F.map fun c => [c]).map S, by rw [nil_S], rfl, .inl (sq_of ?_), ?_, ?_⟩
        · rw [← map_vS, ← oneL_flat]
          exact e2 _ _ hF
        · rw [lens]
          have e2 : (S []).length = 0 := rfl
          rw [e2, Nat.mul_zero, Nat.add_zero]
          have e4 : (List.map List.length (F.map fun c => [c])).sum = F.length := by rw [← List.length_flatten, flat_one]
          exact Nat.le_trans (Nat.le_of_eq e4) (by omega)
        · rw [join_nil]
          exact q H2 (Ex.refl _)
      · rw [R.mem c]
        unfold isLK
        omega
end
end RW
set_option Elab.async false
set_option linter.all false
set_option maxRecDepth 100000
set_option maxHeartbeats 4000000
namespace RW
open PySem PySem.Spec PyProof.Rows L2 SX Evl

/-! ### words going round -/
theorem atw_at {u : Wd} {k : Int} (h : u ≠ []) : u[(k % (u.length : Int)).toNat]? = some (atw u k) := by
  have hp : 0 < u.length := List.length_pos_iff.mpr h
  have h1 := Int.emod_nonneg k (show (u.length : Int) ≠ 0 by omega)
  have h2 := Int.emod_lt_of_pos k (show (0 : Int) < (u.length : Int) by omega)
  unfold atw
  rw [List.getD_eq_getElem?_getD, List.getElem?_eq_getElem (by omega)]
  rfl
theorem mod_next {L : Nat} (h : 0 < L) (k : Int) : ((k + 1) % (L : Int)).toNat = if (k % (L : Int)).toNat + 1 = L then 0 else (k % (L : Int)).toNat + 1 := by
  have h1 := Int.emod_nonneg k (show (L : Int) ≠ 0 by omega)
  have h2 := Int.emod_lt_of_pos k (show (0 : Int) < (L : Int) by omega)
  have h3 : (k + 1) % (L : Int) = (k % (L : Int) + 1) % (L : Int) := (Int.emod_add_emod _ _ _).symm
  rw [h3]
  generalize k % (L : Int) = r at *
  split
  · have : r + 1 = (L : Int) := by omega
    rw [this, Int.emod_self]
    rfl
  · rw [Int.emod_eq_of_lt (by omega) (by omega)]
    omega
def Red (u : Wd) : Prop := ∀ i a b, u[i]? = some a → u[i + 1]? = some b → b ≠ bk a
structure Cyc (u : Wd) : Prop where
  red : Red u
  ends : ∀ a b, 1 < u.length → u[u.length - 1]? = some a → u[0]? = some b → b ≠ bk a
theorem cyc_rnd {u : Wd} (h : Cyc u) (ne : u ≠ []) (k : Int) : atw u (k + 1) ≠ bk (atw u k) := by
  have hp : 0 < u.length := List.length_pos_iff.mpr ne
  have a := atw_at (k := k) ne
  have b := atw_at (k := k + 1) ne
  rw [mod_next hp] at b
  split at b
  · rename_i e
    by_cases hl : 1 < u.length
    · rw [show (k % (u.length : Int)).toNat = u.length - 1 by omega] at a
      exact h.ends _ _ hl a b
    · rw [show (k % (u.length : Int)).toNat = 0 by omega, b] at a
      rw [Option.some.inj a]
      exact fun q => bk_ne _ q.symm
  · exact h.red _ _ _ a b
theorem rep_at (p : Wd) : ∀ (m i : Nat), i < m * p.length → (List.replicate m p).flatten[i]? = p[i % p.length]?
  | 0, i, h => by omega
  | m + 1, i, h => by
    rw [List.replicate_succ, List.flatten_cons]
    by_cases q : i < p.length
    · rw [List.getElem?_append_left q, Nat.mod_eq_of_lt q]
    · rw [List.getElem?_append_right (by omega), rep_at p m _ (by rw [Nat.succ_mul] at h; omega), ← Nat.mod_eq_sub_mod (by omega)]
theorem rep_len (p : Wd) (m : Nat) : (List.replicate m p).flatten.length = m * p.length := by
  rw [List.length_flatten, List.map_replicate, List.sum_replicate_nat]
theorem atw_rep {p : Wd} {m : Nat} (hp : p ≠ []) (hm : 1 ≤ m) (k : Int) : atw (List.replicate m p).flatten k = atw p k := by
  have hl : 0 < p.length := List.length_pos_iff.mpr hp
  have hml : 0 < m * p.length := Nat.mul_pos hm hl
  have ne : (List.replicate m p).flatten ≠ [] := by
    intro e
    have := rep_len p m
    rw [e, List.length_nil] at this
    omega
  have a := atw_at (k := k) ne
  have b := atw_at (k := k) hp
  rw [rep_len] at a
  have h1 := Int.emod_nonneg k (show ((m * p.length : Nat) : Int) ≠ 0 by omega)
  have h2 := Int.emod_lt_of_pos k (show (0 : Int) < ((m * p.length : Nat) : Int) by omega)
  have h5 := Int.emod_nonneg k (show (p.length : Int) ≠ 0 by omega)
  rw [rep_at p m _ (by omega)] at a
  have e : (k % ((m * p.length : Nat) : Int)).toNat % p.length = (k % (p.length : Int)).toNat := by
    have h3 : (k % ((m * p.length : Nat) : Int)) % (p.length : Int) = k % (p.length : Int) := Int.emod_emod_of_dvd k (by rw [Int.natCast_mul]; exact Int.dvd_mul_left _ _)
    have h4 : (((k % ((m * p.length : Nat) : Int)).toNat % p.length : Nat) : Int) = k % (p.length : Int) := by
      rw [Int.natCast_emod, Int.toNat_of_nonneg h1, h3]
    omega
  rw [e, b] at a
  exact (Option.some.inj a).symm
theorem red_nil : Red [] := fun i a b h _ => by simp at h
theorem red_take {u : Wd} (h : Red u) (a m : Nat) : Red ((u.drop a).take m) := fun i x y hx hy => by
  rw [List.getElem?_take] at hx hy
  split at hx
  · split at hy
    · rw [List.getElem?_drop] at hx hy
      exact h (a + i) x y hx (by rw [show a + i + 1 = a + (i + 1) by omega]; exact hy)
    · cases hy
  · cases hx
theorem red_drop {u : Wd} (h : Red u) : Red u.dropLast := fun i x y hx hy => by
  rw [List.getElem?_dropLast] at hx hy
  split at hx
  · split at hy
    · exact h i x y hx hy
    · cases hy
  · cases hx
theorem red_add {u : Wd} {c : Nat} (h : Red u) (hc : ∀ a, u[u.length - 1]? = some a → c ≠ bk a) : Red (u ++ [c]) := fun i x y hx hy => by
  have hi : i + 1 < (u ++ [c]).length := (List.getElem?_eq_some_iff.mp hy).1
  rw [List.length_append, List.length_singleton] at hi
  rw [List.getElem?_append_left (by omega)] at hx
  by_cases q : i + 1 < u.length
  · rw [List.getElem?_append_left q] at hy
    exact h i x y hx hy
  · have e : i + 1 = u.length := by omega
    rw [List.getElem?_append_right (by omega), e, Nat.sub_self] at hy
    have e2 : c = y := by simpa using hy
    subst e2
    rw [show i = u.length - 1 by omega] at hx
    exact hc x hx
theorem oneL_get (u : Wd) (i : Nat) : (oneL u)[i]? = (u[i]?).map fun c => vS [c] := by
  unfold oneL
  rw [List.getElem?_map]
theorem at_last {α : Type} {xs : List α} {v : α} (h : xs[xs.length - 1]? = some v) : atI xs (-1) = some v := by
  have hl := (List.getElem?_eq_some_iff.mp h).1
  unfold atI ixN
  rw [if_neg (by omega), if_pos (by omega)]
  show xs[((-1 : Int) + (xs.length : Int)).toNat]? = _
  rw [show ((-1 : Int) + (xs.length : Int)).toNat = xs.length - 1 by omega]
  exact h
theorem drop_oneL (u : Wd) : (oneL u).dropLast = oneL u.dropLast := by
  unfold oneL
  rw [List.map_dropLast]
theorem cut_oneL (u : Wd) (h : 1 < u.length) : cutV (oneL u) (some 1) (some (-1)) = oneL ((u.drop 1).take (u.length - 2)) := by
  unfold cutV
  have e1 : HT.sIx (oneL u).length 0 (some 1) = 1 := by
    rw [oneL_len]
    show (if (1 : Int) < 0 then ((1 : Int) + (u.length : Int)).toNat else min (1 : Int).toNat u.length) = 1
    rw [if_neg (by decide)]
    show min 1 u.length = 1
    omega
  have e2 : HT.sIx (oneL u).length (oneL u).length (some (-1)) = u.length - 1 := by
    rw [oneL_len]
    show (if (-1 : Int) < 0 then ((-1 : Int) + (u.length : Int)).toNat else min (-1 : Int).toNat u.length) = _
    rw [if_pos (by decide)]
    omega
  rw [e1, e2]
  unfold oneL
  rw [List.map_take, List.map_drop]
  rfl

/-! ### _law_inner -/
def spInner : Sp := fun vs H Q _ => ∃ u : Wd, vs = [vS u] ∧ (∀ c ∈ u, isLK 6 c) ∧ u.length ≤ 1000 ∧ ∀ p H', (∀ c ∈ p, c ∈ u) → p.length ≤ u.length → Cyc p → Ex H H' → Q (vS p) H'
/-- a text of a list of signs -/
theorem ev_joinO {K : PySem.W.Frag} {σ : L2.St} {H : Hp} {i : Nat} {l : Addr} {u : Wd} (hs : σ[i]? = some (some (.ref l))) (h : H l = some (.lst (oneL u))) (hl : u.length ≤ 1000) : Ev (tM1 (rJoin K) (tC (.str "")) (tVar i)) σ H (vS u) := fun H1 e1 Q q => by
  refine ⟨⟨_, rfl⟩, .ref l, hs, S [], l, (u.map fun c => [c]).map S, by rw [nil_S], rfl, .inl (sq_of ?_), ?_, ?_⟩
  · rw [← map_vS, ← oneL_flat]
    exact e1 _ _ h
  · rw [lens]
    have e2 : (S []).length = 0 := rfl
    rw [e2, Nat.mul_zero, Nat.add_zero]
    have e4 : (List.map List.length (u.map fun c => [c])).sum = u.length := by rw [← List.length_flatten, flat_one]
    exact Nat.le_trans (Nat.le_of_eq e4) (by omega)
  · rw [join_nil, flat_one]
    exact q H1 (Ex.refl _)
section
variable {P : Program} {w : World} {K : PySem.W.Frag} {mg : Str → Option Value} {base : Heap}
theorem ok_inner {f f1 : Addr} {fd fd1 : FuncData} {k : Nat} (F0 : Fun K "_law_inner" "_law_inner" sInner f fd) (ml : mg "len" = none) (dB : Def P w K mg base (k + 2) "_law_back" ["_law_word"] spBack f1 fd1) :
    FnOk P w K mg base CX0 (k + 3) f fd ["_law_word"] spInner := by
  refine F0.ok scInner (fun vs H Q E h => ?_) (fun cdv A outer s H vs Q E hr h => ?_)
  · obtain ⟨u, rfl, _⟩ := h
    rfl
  · obtain ⟨u, rfl, hu, hl, z⟩ := h
    refine ⟨_, pss_cons (ps_set (i := 1) scInner.nd rfl (.inl rfl) (pe_lst pa_nil))
      (pss_cons (ps_for PassesOwn.never rfl (pi_str (pv 0)) (pg_name (i := 2) scInner.nd rfl (Or.inl rfl))
        (pss_one (ps_if (PW.pt (pw_and (pt_cmpR op_gt (pe_callB call_len_seq (by rfl) ml PySem.boot_len (pa_cons (pv 1) pa_nil)) pe_int (nomark _)) (pw_and1 (pt_cmpR op_eq (pe_ix ix_list (pv 1) (pe_un un_neg pe_int) (fun _ _ => rfl)) (pe_def dB hr (pa_cons (pv 2) pa_nil)) (nomark _)))))
          (pss_one (ps_expr (pe_bm0 PySem.F.plainAttrs_list PySem.F.slot_list_pop PySem.F.type_list_pop mt_pop (pv 1))))
          (pss_one (ps_expr (pe_bm PySem.F.plainAttrs_list PySem.F.slot_list_append PySem.F.type_list_append mt_append (pv 1) (pa_cons (pv 2) pa_nil)))))))
      (pss_cons (ps_while PassesOwn.never (PW.pt (pw_and (pt_cmpR op_gt (pe_callB call_len_seq (by rfl) ml PySem.boot_len (pa_cons (pv 1) pa_nil)) pe_int (nomark _)) (pw_and1 (pt_cmpR op_eq (pe_ix ix_list (pv 1) pe_int (fun _ _ => rfl)) (pe_def dB hr (pa_cons (pe_ix ix_list (pv 1) (pe_un un_neg pe_int) (fun _ _ => rfl)) pa_nil)) (nomark _)))))
        (pss_one (ps_set (i := 1) scInner.nd rfl (.inl rfl) (pe_slice sl_list (pv 1) (po_some pe_int) (po_some (pe_un un_neg pe_int))))))
      (pss_one (ps_ret (pe_join pe_str (pv 1)))))), ?_⟩
    refine q_asgL (el_lst ea_nil (by show 0 ≤ 100000; decide)) fun l H1 nl e1 hl1 => ?_
    refine ⟨_, rfl, S u, rfl, ?_⟩
    refine for_it walk_str (fun i σ' G => ∃ y2, ∃ v : Wd, σ' = [some (vS u), some (.ref l), y2] ∧ Ex H G ∧ G l = some (.lst (oneL v)) ∧ (∀ c ∈ v, c ∈ u) ∧ v.length ≤ i ∧ Red v) ⟨none, [], rfl, e1, hl1, (fun c h => by simp at h), Nat.le_refl _, red_nil⟩ (fun _ _ _ _ _ => trivial)
      (fun i x σ' G G' hi hP hx => ?_) fun σ' G hP => ?_
    · obtain ⟨y2, v, rfl, eG, hv, mv, lv, rv⟩ := hP
      obtain ⟨rfl, c, hc, rfl⟩ := hx
      have hc' : u[i]? = some c := by
        have : (S u).cps[i]? = u[i]? := List.getElem?_toArray
        rw [← this]
        exact hc
      have hiu : i < u.length := (List.getElem?_eq_some_iff.mp hc').1
      have hcu : c ∈ u := List.mem_of_getElem? hc'
      show tIfS _ _ _ _ [some (vS u), some (.ref l), some (vS [c])] G'
      by_cases hn : v = []
      · subst hn
        refine s_if (b := false) (et_is (et_and (et_test (ev_op (ev_len (K := K) (ev_var rfl) (sq_of hv)) ev_c rv_I0)) (b := true) fun h => by cases h) rfl) (fun h => by cases h) fun _ G2 e2 => ?_
        refine s_app (e2 _ _ hv) (ev_var rfl) (ev_var rfl) (by show 0 < 100000; decide) fun G3 e3 => ?_
        exact ⟨some (vS [c]), [c], rfl, Ex.mut ((eG.trans e2).trans e3) nl, upd_same, (fun d hd => by rw [List.mem_singleton] at hd; rw [hd]; exact hcu), by show 1 ≤ i + 1; omega, red_add (u := []) red_nil fun a h => by simp at h⟩
      · have hp : 0 < v.length := List.length_pos_iff.mpr hn
        obtain ⟨a, ha⟩ : ∃ a, v[v.length - 1]? = some a := ⟨_, List.getElem?_eq_getElem (by omega)⟩
        have hau := mv a (List.mem_of_getElem? ha)
        have hla : (oneL v)[(oneL v).length - 1]? = some (vS [a]) := by rw [oneL_len, oneL_get, ha]; rfl
        refine s_if (b := true && (a == bk c)) (et_and (et_is (et_test (ev_op (ev_len (K := K) (ev_var rfl) (sq_of hv)) ev_c rv_I0)) (decide_eq_true (by rw [oneL_len]; omega))) fun _ =>
          et_test (ev_eqS (ev_op (ev_var rfl) (ev_un ev_c ru_neg) (rv_ixL (sq_of hv) (at_last hla))) (ev_bk (ev_var rfl) (hu c hcu)))) (fun hb G2 e2 => ?_) fun hb G2 e2 => ?_
        · refine ⟨.ref l, rfl, .inl ⟨rfl, _, sq_of (e2 _ _ hv)⟩, l, oneL v, vS [a], rfl, rfl, e2 _ _ hv, hla, ?_⟩
          rw [drop_oneL]
          exact ⟨some (vS [c]), v.dropLast, rfl, Ex.mut (eG.trans e2) nl, upd_same, (fun d hd => mv d (List.dropLast_subset v hd)), by rw [List.length_dropLast]; omega, red_drop rv⟩
        · have hne : a ≠ bk c := by
            rw [Bool.true_and] at hb
            exact fun q => by rw [q, beq_self_eq_true] at hb; cases hb
          refine s_app (e2 _ _ hv) (ev_var rfl) (ev_var rfl) (by rw [oneL_len]; omega) fun G3 e3 => ?_
          have ea : oneL v ++ [vS [c]] = oneL (v ++ [c]) := by
            unfold oneL
            rw [List.map_append]
            rfl
          rw [ea]
          refine ⟨some (vS [c]), v ++ [c], rfl, Ex.mut ((eG.trans e2).trans e3) nl, upd_same, fun d hd => ?_, by rw [List.length_append, List.length_singleton]; omega, red_add rv fun a' ha' => ?_⟩
          · rcases List.mem_append.mp hd with h | h
            · exact mv d h
            · rw [List.mem_singleton] at h
              rw [h]
              exact hcu
          · rw [ha] at ha'
            rw [← Option.some.inj ha']
            intro q
            rw [q, bk_bk (Nat.le_refl 6) (hu a hau)] at hne
            exact hne rfl
    · obtain ⟨y2, v, rfl, eG, hv, mv, lv, rv⟩ := hP
      have lv' : v.length ≤ u.length := by
        have : (S u).cps.size = u.length := List.size_toArray
        omega
      refine q_while (fun m σ' G => ∃ l y2 v, σ' = [some (vS u), some (.ref l), y2] ∧ Ex H G ∧ G l = some (.lst (oneL v)) ∧ (∀ c ∈ v, c ∈ u) ∧ v.length = m ∧ v.length ≤ u.length ∧ Red v) v.length ⟨l, y2, v, rfl, eG, hv, mv, rfl, lv', rv⟩ fun m σ' G hW => ?_
      obtain ⟨l, y2, v, rfl, eG, hv, mv, em, lv, rv⟩ := hW
      by_cases hn : 1 < v.length
      · obtain ⟨a, ha⟩ : ∃ a, v[v.length - 1]? = some a := ⟨_, List.getElem?_eq_getElem (by omega)⟩
        obtain ⟨c, hc⟩ : ∃ c, v[0]? = some c := ⟨_, List.getElem?_eq_getElem (by omega)⟩
        have hau := mv a (List.mem_of_getElem? ha)
        have hla : (oneL v)[(oneL v).length - 1]? = some (vS [a]) := by rw [oneL_len, oneL_get, ha]; rfl
        have hlc : (oneL v)[0]? = some (vS [c]) := by rw [oneL_get, hc]; rfl
        refine ⟨true && (c == bk a), et_and (et_is (et_test (ev_op (ev_len (K := K) (ev_var rfl) (sq_of hv)) ev_c rv_I0)) (decide_eq_true (by rw [oneL_len]; omega))) fun _ =>
          et_test (ev_eqS (ev_op (ev_var rfl) ev_c (rv_ixL (sq_of hv) (atI_nat (j := 0) hlc))) (ev_bk (ev_op (ev_var rfl) (ev_un ev_c ru_neg) (rv_ixL (sq_of hv) (at_last hla))) (hu a hau))), fun hb G2 e2 => ?_, fun hb G2 e2 => ?_⟩
        · refine ⟨_, fun σ2 H2 h => h, s_asgL (el_sl (ev_var rfl) (eo_some ev_c) (eo_some (ev_un ev_c ru_neg)) (sq_of (e2 _ _ hv))) fun p H3 np e3 h3 => ?_⟩
          rw [cut_oneL v hn] at h3
          have lt : ((v.drop 1).take (v.length - 2)).length = v.length - 2 := by
            rw [List.length_take, List.length_drop]
            omega
          exact ⟨v.length - 2, by omega, p, y2, _, rfl, (eG.trans e2).trans e3, h3, fun d hd => mv d (List.mem_of_mem_drop (List.mem_of_mem_take hd)), lt, by omega, red_take rv _ _⟩
        · have hne : c ≠ bk a := by
            rw [Bool.true_and] at hb
            exact fun q => by rw [q, beq_self_eq_true] at hb; cases hb
          refine s_ret (ev_joinO (K := K) rfl (e2 _ _ hv) (by omega)) fun G3 e3 => z v G3 mv lv ⟨rv, fun a' b' _ h1 h2 => ?_⟩ ((eG.trans e2).trans e3)
          rw [ha] at h1
          rw [hc] at h2
          rw [← Option.some.inj h1, ← Option.some.inj h2]
          exact hne
      · refine ⟨false, et_is (et_and (et_is (a := decide ((1 : Int) < ((oneL v).length : Int))) (et_test (ev_op (ev_len (K := K) (ev_var rfl) (sq_of hv)) ev_c rv_I0)) (decide_eq_false (by rw [oneL_len]; omega))) (b := true) fun h => by cases h) rfl, (fun h => by cases h), fun _ G2 e2 => ?_⟩
        exact s_ret (ev_joinO (K := K) rfl (e2 _ _ hv) (by omega)) fun G3 e3 => z v G3 mv lv ⟨rv, fun a' b' h => absurd h hn⟩ ((eG.trans e2).trans e3)
end
end RW
set_option Elab.async false
set_option linter.all false
set_option maxRecDepth 100000
set_option maxHeartbeats 4000000
namespace RW
open PySem PySem.Spec PyProof.Rows L2 SX Evl

/-! ### _law_rooted -/
def spRooted : Sp := fun vs H Q _ => ∃ u : Wd, vs = [vS u] ∧ u.length ≤ 1000 ∧ ∀ p H', (∀ c ∈ p, c ∈ u) → p.length ≤ u.length → (u = [] → p = []) → (u ≠ [] → p ≠ [] ∧ ∀ k, atw p k = atw u k) → Ex H H' → Q (vS p) H'
theorem repS_S (u : Wd) (n : Nat) : repS (S u) n = S (List.replicate n u).flatten := by
  unfold repS
  rfl
section
variable {P : Program} {w : World} {K : PySem.W.Frag} {mg : Str → Option Value} {base : Heap}
theorem ok_rooted {f : Addr} {fd : FuncData} {k : Nat} (F0 : Fun K "_law_rooted" "_law_rooted" sRooted f fd) (ml : mg "len" = none) (mr : mg "range" = none) :
    FnOk P w K mg base CX0 (k + 1) f fd ["_law_word"] spRooted := by
  refine F0.ok scRooted (fun vs H Q E h => ?_) (fun cdv A outer s H vs Q E hr h => ?_)
  · obtain ⟨u, rfl, _⟩ := h
    rfl
  · obtain ⟨u, rfl, hl, z⟩ := h
    refine ⟨_, pss_cons (ps_for PassesOwn.never rfl (pi_range2 (by rfl) mr (pa_cons pe_int (pa_cons (pe_callB call_len (by rfl) ml PySem.boot_len (pa_cons (pv 0) pa_nil)) pa_nil))) (pg_name (i := 1) scRooted.nd rfl (Or.inl rfl))
        (pss_one (ps_if (pt_cmpR op_eq (pe_op op_mulS (pe_slice sl_str (pv 0) po_none (po_some (pv 1))) (pe_op op_fdiv (pe_callB call_len (by rfl) ml PySem.boot_len (pa_cons (pv 0) pa_nil)) (pv 1))) (pv 0) (nomark _))
          (pss_one (ps_ret (pe_slice sl_str (pv 0) po_none (po_some (pv 1))))) pss_nil)))
      (pss_one (ps_ret (pv 0))), ?_⟩
    refine q_forR2 (lo := (1 : Int)) (n := ((u.length : Nat) : Int)) (ea_cons ev_c (ea_cons (ev_lenS (ev_var rfl) hl) ea_nil)) (by omega)
      (fun i σ' G => ∃ y, σ' = [some (vS u), y] ∧ Ex H G) (fun G e => ⟨none, rfl, e⟩) (fun i σ' G hi hP => ?_) fun σ' G hP => ?_
    · obtain ⟨y, rfl, e⟩ := hP
      have es : (1 : Int) + (i : Int) = ((1 + i : Nat) : Int) := by omega
      rw [es]
      have hs : 1 + i < u.length := by omega
      have lt : (u.take (1 + i)).length = 1 + i := by
        rw [List.length_take]
        omega
      have hd : 1 ≤ u.length / (1 + i) := (Nat.one_le_div_iff (by omega)).mpr (by omega)
      have hd2 : u.length / (1 + i) ≤ 1000 := Nat.le_trans (Nat.div_le_self _ _) hl
      refine s_when (b := decide (vS (List.replicate (u.length / (1 + i)) (u.take (1 + i))).flatten = vS u)) (et_test (ev_op (ev_op (ev_to (ev_var rfl) (ev_var rfl) (by omega)) (ev_is (ev_op (ev_lenS (ev_var rfl) hl) (ev_var rfl) (rv_I (C := CDiv) ⟨by omega, by omega⟩)) (congrArg V.int (show ((u.length : Nat) : Int) / ((1 + i : Nat) : Int) = ((u.length / (1 + i) : Nat) : Int) from (Int.natCast_ediv _ _).symm))) (fun H1 e1 Q q => ?_)) (ev_var rfl) (rv_eq rfl)))
        (fun hb G2 e2 => ?_) fun _ G2 e2 => ⟨_, rfl, e.trans e2⟩
      · refine ⟨_, _, rfl, rfl, by omega, by omega, by rw [S_len, lt]; omega, by rw [S_len, lt]; omega, ?_⟩
        rw [Int.toNat_natCast, repS_S]
        exact q H1 (Ex.refl _)
      · have eq : (List.replicate (u.length / (1 + i)) (u.take (1 + i))).flatten = u := S_inj (V.str.inj (of_decide_eq_true hb))
        have ne : u.take (1 + i) ≠ [] := fun q => by
          rw [q, List.length_nil] at lt
          omega
        refine s_ret (ev_to (ev_var rfl) (ev_var rfl) (by omega)) fun G3 e3 => z _ G3 (fun c hc => List.mem_of_mem_take hc) (by omega) (fun q => ?_) (fun _ => ⟨ne, fun k => ?_⟩) ((e.trans e2).trans e3)
        · rw [q, List.length_nil] at hs
          omega
        · have := atw_rep (m := u.length / (1 + i)) ne hd k
          rw [eq] at this
          exact this.symm
    · obtain ⟨y, rfl, e⟩ := hP
      exact s_ret (ev_var rfl) fun G3 e3 => z u G3 (fun c h => h) (Nat.le_refl _) (fun h => h) (fun h => ⟨h, fun k => rfl⟩) (e.trans e3)
end

/-! ### ways: what a drawn way is -/
structure Way (n : Nat) (u : Wd) : Prop where
  ne : u ≠ []
  few : u.length ≤ 8
  let_ : ∀ c ∈ u, isLK n c
  rnd : ∀ k : Int, atw u (k + 1) ≠ bk (atw u k)
theorem Way.pos {n : Nat} {u : Wd} (h : Way n u) : 0 < u.length := List.length_pos_iff.mpr h.ne
theorem neg_mod {L : Nat} (h : 0 < L) (k : Int) : ((-1 - k) % (L : Int)).toNat = L - 1 - (k % (L : Int)).toNat := by
  have h1 := Int.emod_nonneg k (show (L : Int) ≠ 0 by omega)
  have h2 := Int.emod_lt_of_pos k (show (0 : Int) < (L : Int) by omega)
  have h3 := Int.emod_add_mul_ediv k (L : Int)
  generalize k % (L : Int) = r at *
  generalize k / (L : Int) = q at *
  have e : -1 - k = ((L : Int) - 1 - r) + (L : Int) * (-q - 1) := by
    rw [← h3, Int.mul_sub, Int.mul_neg]
    omega
  rw [e, Int.add_mul_emod_self_left, Int.emod_eq_of_lt (by omega) (by omega)]
  omega
theorem bw_len (u : Wd) : (bw u).length = u.length := by
  unfold bw
  rw [List.length_map, List.length_reverse]
theorem atw_bw {u : Wd} (h : u ≠ []) (k : Int) : atw (bw u) k = bk (atw u (-1 - k)) := by
  have hp : 0 < u.length := List.length_pos_iff.mpr h
  have hb : bw u ≠ [] := fun e => by
    have := bw_len u
    rw [e, List.length_nil] at this
    omega
  have a := atw_at (k := k) hb
  have b := atw_at (k := -1 - k) h
  have h1 := Int.emod_nonneg k (show (u.length : Int) ≠ 0 by omega)
  have h2 := Int.emod_lt_of_pos k (show (0 : Int) < (u.length : Int) by omega)
  rw [bw_len] at a
  rw [neg_mod hp] at b
  unfold bw at a
  rw [List.getElem?_map, List.getElem?_reverse (by omega), b] at a
  exact (Option.some.inj a).symm
theorem atw_rot {u : Wd} (h : u ≠ []) {a : Nat} (ha : a ≤ u.length) (k : Int) : atw (rot u a) k = atw u (k + (a : Int)) := by
  have hp : 0 < u.length := List.length_pos_iff.mpr h
  have hr : rot u a ≠ [] := fun e => by
    have := rot_len ha
    rw [e, List.length_nil] at this
    omega
  have x := atw_at (k := k) hr
  have y := atw_at (k := k + (a : Int)) h
  have h1 := Int.emod_nonneg k (show (u.length : Int) ≠ 0 by omega)
  have h2 := Int.emod_lt_of_pos k (show (0 : Int) < (u.length : Int) by omega)
  rw [rot_len ha] at x
  have e : (k + (a : Int)) % (u.length : Int) = (k % (u.length : Int) + (a : Int)) % (u.length : Int) := (Int.emod_add_emod _ _ _).symm
  rw [e] at y
  generalize k % (u.length : Int) = r at *
  unfold rot at x
  by_cases q : r.toNat < u.length - a
  · rw [List.getElem?_append_left (by rw [List.length_drop]; omega), List.getElem?_drop] at x
    rw [Int.emod_eq_of_lt (by omega) (by omega), show (r + (a : Int)).toNat = a + r.toNat by omega, x] at y
    exact Option.some.inj y
  · rw [List.getElem?_append_right (by rw [List.length_drop]; omega), List.length_drop, List.getElem?_take_of_lt (by omega)] at x
    have e2 : r + (a : Int) = (r + (a : Int) - (u.length : Int)) + (u.length : Int) * 1 := by omega
    rw [e2, Int.add_mul_emod_self_left, Int.emod_eq_of_lt (by omega) (by omega), show (r + (a : Int) - (u.length : Int)).toNat = r.toNat - (u.length - a) by omega, x] at y
    exact Option.some.inj y
theorem Way.back {n : Nat} {u : Wd} (h : Way n u) (hn : n ≤ 6) : Way n (bw u) := by
  refine ⟨fun e => ?_, by rw [bw_len]; exact h.few, fun c hc => ?_, fun k => ?_⟩
  · have := bw_len u
    have := h.pos
    rw [e, List.length_nil] at *
    omega
  · unfold bw at hc
    obtain ⟨d, hd, e⟩ := List.mem_map.mp hc
    rw [← e]
    exact bk_isLK hn (h.let_ d (List.mem_reverse.mp hd))
  · rw [atw_bw h.ne, atw_bw h.ne, bk_bk hn (h.let_ _ (atw_get h.ne _).2)]
    have := h.rnd (-1 - (k + 1))
    rw [show -1 - (k + 1) + 1 = -1 - k by omega] at this
    exact fun q => this q.symm
theorem Way.rot {n : Nat} {u : Wd} (h : Way n u) {a : Nat} (ha : a ≤ u.length) : Way n (rot u a) := by
  refine ⟨fun e => ?_, by rw [rot_len ha]; exact h.few, fun c hc => h.let_ c (rot_mem.mp hc), fun k => ?_⟩
  · have := rot_len ha
    have := h.pos
    rw [e, List.length_nil] at *
    omega
  · rw [atw_rot h.ne ha, atw_rot h.ne ha, show k + 1 + (a : Int) = k + (a : Int) + 1 by omega]
    exact h.rnd _

/-! ### _law_any_way -/
def sgn (n : Nat) : Wd := [97, 98, 99, 100, 101, 102].take n ++ [65, 66, 67, 68, 69, 70].take n
theorem sgn_len {n : Nat} (h : n ≤ 6) : (sgn n).length = 2 * n := by
  unfold sgn
  rw [List.length_append, List.length_take, List.length_take]
  simp
  omega
theorem sgn_is {n c : Nat} (h : n ≤ 6) (hc : c ∈ sgn n) : isLK n c := by
  unfold sgn at hc
  unfold isLK
  match n, h with
  | 0, _ => simp at hc
  | 1, _ => simp at hc; omega
  | 2, _ => simp at hc; omega
  | 3, _ => simp at hc; omega
  | 4, _ => simp at hc; omega
  | 5, _ => simp at hc; omega
  | 6, _ => simp at hc; omega
  | n + 7, h => omega
theorem sgn_0 {n : Nat} (h : 1 ≤ n) : (sgn n)[0]? = some 97 := by
  unfold sgn
  match n, h with
  | n + 1, _ => rfl
def spAnyWay : Sp := fun vs H Q _ => ∃ (t ca : Addr) (n l : Nat), vs = [.ref t, .int (n : Int), .int (l : Int)] ∧ Tp H t ca ∧ 1 ≤ n ∧ n ≤ 6 ∧ 1 ≤ l ∧ l ≤ 8 ∧ ∀ u H', Way n u → Dr t ca H H' → Q (vS u) H'
theorem s_ifD {σ : L2.St} {H : Hp} {D : Ends} {tu tw : TS} {ta : TA} {E : XK} {t ca : Addr} {n : Int} (ha : EvA ta σ H [.ref t, .int n]) (T : Tp H t ca) (hn : 0 < n) (hn2 : n ≤ 1000) (k1 : ∀ H', Dr t ca H H' → tu D σ H') (k2 : ∀ H', Dr t ca H H' → tw D σ H') :
    tIfS (tTest (tOp rEq (tCall spDraw [] E ta) (tC (.int 0)))) tu tw D σ H := draw_go ha T hn hn2 fun r H' _ _ d => ⟨rfl, _, rfl, by
  show if decide (V.int r = V.int 0) = true then tu D σ H' else tw D σ H'
  by_cases h : decide (V.int r = V.int 0) = true
  · rw [if_pos h]
    exact k1 H' d
  · rw [if_neg h]
    exact k2 H' d⟩
section
variable {P : Program} {w : World} {K : PySem.W.Frag} {mg : Str → Option Value} {base : Heap}
theorem ok_anyWay {f f1 f2 f3 : Addr} {fd fd1 fd2 fd3 : FuncData} {k : Nat} (F0 : Fun K "_law_any_way" "_law_any_way" sAnyWay f fd) (mr : mg "range" = none) (dD : Def P w K mg base (k + 2) "_law_draw" ["_law_tape_here", "_law_many"] spDraw f1 fd1) (dI : Def P w K mg base (k + 2) "_law_inner" ["_law_word"] spInner f2 fd2)
    (dR : Def P w K mg base (k + 2) "_law_rooted" ["_law_word"] spRooted f3 fd3) : FnOk P w K mg base CX0 (k + 3) f fd ["_law_tape_here", "_law_many", "_law_long"] spAnyWay := by
  refine F0.ok scAnyWay (fun vs H Q E h => ?_) (fun cdv A outer s H vs Q E hr h => ?_)
  · obtain ⟨t, ca, n, l, rfl, _⟩ := h
    rfl
  · obtain ⟨t, ca, n, l, rfl, T, n1, n6, l1, l8, z⟩ := h
    refine ⟨_, pss_cons (ps_set (i := 3) scAnyWay.nd rfl (Or.inr rfl) (pe_op op_add_str (pe_slice sl_str pe_str po_none (po_some (pv 1))) (pe_slice sl_str pe_str po_none (po_some (pv 1)))))
      (pss_cons (ps_set (i := 4) scAnyWay.nd rfl (.inl rfl) (pe_join pe_str (pe_lc (own := [("_law_k", 6)]) (g := gName 6) rfl scAnyWay.nd (pi_range1 rfl mr (pa_cons (pe_op op_add pe_int (pe_def dD hr (pa_cons (pv 0) (pa_cons (pv 2) pa_nil)))) pa_nil)) (blkOk_by (N := ["_law_tape_here", "_law_many", "_law_long", "_law_signs", "_law_word", "_law_at", "_law_k"]) (sc := defScope sAnyWay) (by decide +kernel))
        (fun _ _ _ _ _ => pg_name (i := 6) scAnyWay.nd rfl (Or.inl rfl)) (fun _ _ _ _ _ => pts_nil) (fun _ _ _ _ _ => pe_ix ix_str (pv 3) (pe_def dD hr (pa_cons (pv 0) (pa_cons (pe_op op_mul pe_int (pv 1)) pa_nil))) (fun _ _ => rfl)))))
      (pss_cut (ps_if (pt_cmpR op_eq (pe_def dD hr (pa_cons (pv 0) (pa_cons pe_int pa_nil))) pe_int (nomark _))
        (pss_cons (ps_set (i := 5) scAnyWay.nd rfl (.inl rfl) (pe_op op_add pe_int (pe_def dD hr (pa_cons (pv 0) (pa_cons pe_int pa_nil)))))
        (pss_one (ps_set (i := 4) scAnyWay.nd rfl (.inl rfl) (pe_op op_add_str (pe_op op_mulS (pe_slice sl_str (pv 4) po_none (po_some (pv 5))) (pe_op op_add pe_int (pe_def dD hr (pa_cons (pv 0) (pa_cons pe_int pa_nil))))) (pe_slice sl_str (pv 4) (po_some (pv 5)) po_none))))) pss_nil)
      (pss_one (ps_ret (pe_orT (pe_def dR hr (pa_cons (pe_def dI hr (pa_cons (pe_slice sl_str (pv 4) po_none (po_some (pv 2))) pa_nil)) pa_nil)) (pe_one (pe_ix ix_str (pv 3) pe_int (fun _ _ => rfl)))))))), ?_⟩
    refine q_asg (ev_cat (u := [97, 98, 99, 100, 101, 102].take n) (v := [65, 66, 67, 68, 69, 70].take n) (ev_to (ev_is ev_c (by rw [small_S])) (ev_var rfl) (by decide)) (ev_to (ev_is ev_c (by rw [big_S])) (ev_var rfl) (by decide)) (by rw [List.length_take, List.length_take]; simp; omega)) fun H1 e1 => ?_
    have T1 := T.ex e1
    have sl := sgn_len n6
    refine ⟨⟨_, rfl⟩, ?_⟩
    show tCall spDraw [] E0 _ _ _ _
    refine draw_go (ca := ca) (ea_cons (ev_var rfl) (ea_cons (ev_var rfl) ea_nil)) T1 (by omega) (by omega) fun m G m0 m1 dm => ?_
    refine ⟨1, m, rfl, rfl, 1 + m, rfl, by omega, by omega, fun Dl nD => ?_⟩
    have nDt : Dl ≠ t := dm.fresh nD
    have nDc : Dl ≠ ca := fun e => by
      obtain ⟨cs, hc, _⟩ := dm.tp.cs
      rw [← e, nD] at hc
      cases hc
    have dG := (T.dr e1).trans dm
    have nH := dG.back nD
    refine lc_range (lo := 0) (n := (1 + m).toNat) (fun i G => ∃ u : Wd, G Dl = some (.lst (oneL u)) ∧ u.length = i ∧ (∀ c ∈ u, isLK n c) ∧ Dr t ca H G) ⟨[], upd_same, rfl, (fun c hc => by simp at hc), dG.mut nH nDt nDc⟩ (fun i G hi hP => ?_) fun G hP => ?_
    · obtain ⟨u, hu, lu, mu, d⟩ := hP
      refine ⟨rfl, ?_⟩
      refine ⟨vS (sgn n), rfl, ?_⟩
      show tCall spDraw [] E0 _ _ _ _
      refine draw_go (ca := ca) (n := 2 * (n : Int)) (ea_cons (ev_var rfl) (ea_cons (ev_op ev_c (ev_var rfl) (rv_I (C := CMul) (.inl ⟨by decide, by decide⟩))) ea_nil)) d.tp (by omega) (by omega) fun r G2 r0 r1 d2 => ?_
      have hr2 : r.toNat < (sgn n).length := by omega
      have ga : atI (sgn n) r = some (sgn n)[r.toNat] := by
        have := atI_nat (xs := sgn n) (j := r.toNat) (List.getElem?_eq_getElem hr2)
        rw [Int.toNat_of_nonneg r0] at this
        exact this
      refine ⟨S (sgn n), r, _, rfl, rfl, by rw [S_len]; exact sz_of (by omega), ga, oneL u, d2.ex _ _ nDt hu, by rw [oneL_len]; exact sz_lt (by omega), u ++ [(sgn n)[r.toNat]], ?_, by rw [List.length_append, lu]; rfl, fun c hc => ?_, (d.trans d2).mut nH nDt nDc⟩
      · rw [upd_same]
        unfold oneL
        rw [List.map_append]
        rfl
      · rcases List.mem_append.mp hc with h | h
        · exact mu c h
        · rw [List.mem_singleton] at h
          rw [h]
          exact sgn_is n6 (List.getElem_mem hr2)
    · obtain ⟨u, hu, lu, mu, d⟩ := hP
      have lu8 : 1 ≤ u.length ∧ u.length ≤ 8 := by omega
      refine ⟨S [], Dl, (u.map fun c => [c]).map S, by rw [nil_S], rfl, .inl (sq_of (by rw [← map_vS, ← oneL_flat]; exact hu)), ?_, ?_⟩
      · rw [lens]
        have e2 : (S []).length = 0 := rfl
        rw [e2, Nat.mul_zero, Nat.add_zero]
        have e4 : (List.map List.length (u.map fun c => [c])).sum = u.length := by rw [← List.length_flatten, flat_one]
        exact Nat.le_trans (Nat.le_of_eq e4) (by omega)
      rw [join_nil, flat_one]
      refine q_cut (M := fun σ' G => ∃ y5 y6, ∃ v : Wd, σ' = [some (.ref t), some (.int (n : Int)), some (.int (l : Int)), some (vS (sgn n)), some (vS v), y5, y6] ∧ v.length ≤ 100 ∧ (∀ c ∈ v, isLK n c) ∧ Dr t ca H G) ?_ ?_
      · refine s_ifD (ca := ca) (ea_cons (ev_var rfl) (ea_cons ev_c ea_nil)) d.tp (by decide) (by decide) (fun G2 d2 => ?_) fun G2 d2 => ⟨_, _, u, rfl, by omega, mu, d.trans d2⟩
        show tCall spDraw [] E0 _ _ _ _
        refine draw_go (ca := ca) (ea_cons (ev_var rfl) (ea_cons ev_c ea_nil)) d2.tp (by decide) (by decide) fun x G3 x0 x1 d3 => ?_
        refine ⟨1, x, rfl, rfl, ?_⟩
        have ex : (1 : Int) + x = ((1 + x.toNat : Nat) : Int) := by omega
        have lt : 1 ≤ (u.take (1 + x.toNat)).length ∧ (u.take (1 + x.toNat)).length ≤ 3 := by
          rw [List.length_take]
          omega
        refine ev_to (k := 1 + x.toNat) (u := u) (ev_var rfl) (ev_is (ev_var rfl) (congrArg V.int ex)) (by omega) G3 (Ex.refl _) _ fun G4 e4 => ?_
        show tCall spDraw [] E0 _ _ _ _
        refine draw_go (ca := ca) (ea_cons (ev_var rfl) (ea_cons ev_c ea_nil)) (d3.tp.ex e4) (by decide) (by decide) fun y G5 y0 y1 d5 => ?_
        refine ⟨2, y, rfl, rfl, S (u.take (1 + x.toNat)), 2 + y, rfl, rfl, by omega, by omega, by rw [S_len]; omega, by rw [S_len]; omega, ?_⟩
        refine ev_from (k := 1 + x.toNat) (u := u) (ev_var rfl) (ev_is (ev_var rfl) (congrArg V.int ex)) (by omega) G5 (Ex.refl _) _ fun G6 e6 => ?_
        have lr : (List.replicate (2 + y).toNat (u.take (1 + x.toNat))).flatten.length ≤ 12 := by
          rw [rep_len]
          have : (2 + y).toNat * (u.take (1 + x.toNat)).length ≤ 4 * 3 := Nat.mul_le_mul (by omega) (by omega)
          omega
        rw [repS_S]
        refine ⟨_, _, rfl, rfl, by rw [S_len, S_len, List.length_drop]; exact sz_of (by omega), ?_⟩
        rw [S_cat]
        refine ⟨_, _, _, rfl, by rw [List.length_append, List.length_drop]; omega, fun c hc => ?_, ((d.trans d2).trans d3).trans ((d3.tp.dr e4).trans (d5.plus e6))⟩
        rcases List.mem_append.mp hc with h | h
        · obtain ⟨p, hp, hcp⟩ := List.mem_flatten.mp h
          rw [List.eq_of_mem_replicate hp] at hcp
          exact mu c (List.mem_of_mem_take hcp)
        · exact mu c (List.mem_of_mem_drop h)
      · intro σ' G hM
        obtain ⟨y5, y6, v, rfl, lv, mv, d⟩ := hM
        have mv6 : ∀ c ∈ v.take l, isLK 6 c := fun c hc => isLK_mono (mv c (List.mem_of_mem_take hc)) n6
        have lt : (v.take l).length ≤ 8 := by
          rw [List.length_take]
          omega
        refine ev_to (k := l) (u := v) (ev_var rfl) (ev_var rfl) (by omega) G (Ex.refl _) _ fun G1 f1 => ?_
        refine ⟨v.take l, rfl, mv6, by omega, fun p G2 mp lp cyc f2 => ?_⟩
        refine ⟨p, rfl, by omega, fun p2 G3 m3 l3 h0 hne f3 => ?_⟩
        have dd := d.plus ((f1.trans f2).trans f3)
        refine ⟨((S p2).length : Int) != 0, ⟨by rw [S_len]; exact sz_of (by omega), rfl⟩, ?_⟩
        by_cases q : p = []
        · have q2 := h0 q
          subst q2
          rw [if_neg (by decide)]
          refine ⟨vS (sgn n), rfl, S (sgn n), 0, 97, rfl, rfl, by rw [S_len]; exact sz_of (by omega), atI_nat (j := 0) (sgn_0 n1), ?_⟩
          refine z [97] G3 ⟨by simp, by decide, fun c hc => ?_, fun k => ?_⟩ dd
          · rw [List.mem_singleton] at hc
            subst hc
            unfold isLK
            omega
          · have a := atw_at (u := [97]) (k := k) (by simp)
            have b := atw_at (u := [97]) (k := k + 1) (by simp)
            have a2 := List.mem_singleton.mp (List.mem_of_getElem? a)
            have b2 := List.mem_singleton.mp (List.mem_of_getElem? b)
            rw [a2, b2]
            decide
        · obtain ⟨ne, at_⟩ := hne q
          have : 0 < p2.length := List.length_pos_iff.mpr ne
          rw [if_pos (by rw [S_len, bne_iff_ne]; omega)]
          refine z p2 G3 ⟨ne, by omega, fun c hc => mv c (List.mem_of_mem_take (mp c (m3 c hc))), fun k => ?_⟩ dd
          rw [at_, at_]
          exact cyc_rnd cyc q k
end
end RW
set_option Elab.async false
set_option linter.all false
set_option maxRecDepth 100000
set_option maxHeartbeats 4000000
namespace RW
open PySem PySem.Spec PyProof.Rows L2 SX Evl

/-! ### _law_some_ways -/
def spSomeWays : Sp := fun vs H Q _ => ∃ (t ca : Addr) (n l : Nat), vs = [.ref t, .int (n : Int), .int 3, .int (l : Int)] ∧ Tp H t ca ∧ 1 ≤ n ∧ n ≤ 6 ∧ 1 ≤ l ∧ l ≤ 8 ∧ ∀ a W H', WaysT H' a W → (∀ u ∈ W, Way n u) → 1 ≤ W.length → W.length ≤ 3 → Dr t ca H H' → Q (.ref a) H'
theorem way_go {σ : L2.St} {H : Hp} {Q : VK} {ta : TA} {E : XK} {t ca : Addr} {n l : Nat} (ha : EvA ta σ H [.ref t, .int (n : Int), .int (l : Int)]) (T : Tp H t ca) (n1 : 1 ≤ n) (n6 : n ≤ 6) (l1 : 1 ≤ l) (l8 : l ≤ 8) (k : ∀ u H', Way n u → Dr t ca H H' → Q (vS u) H') : tCall spAnyWay [] E ta σ H Q :=
  ha H (Ex.refl H) _ fun H1 e1 => ⟨t, ca, n, l, rfl, T.ex e1, n1, n6, l1, l8, fun u H' h d => k u H' h ((T.dr e1).trans d)⟩
theorem q_do {te : TE} {i : Nat} {tz : TS} {D : Ends} {σ : L2.St} {H : Hp} (h : te σ H fun x H1 => tz D (σ.set i (some x)) H1) : tSeq (tAsg te (gName i)) tz D σ H := h
theorem s_do {te : TE} {i : Nat} {D : Ends} {σ : L2.St} {H : Hp} (h : te σ H fun x H1 => D.nx (σ.set i (some x)) H1) : tAsg te (gName i) D σ H := h
theorem eu_tupOfL {K : PySem.W.Frag} {σ : L2.St} {H : Hp} {ta : TE} {a : Addr} {xs : List V} (h : Ev ta σ H (.ref a)) (ha : H a = some (.lst xs)) : EvU (tCB (rTupOf K) (tCons ta tNil)) σ H xs := fun H1 e Q q =>
  h H1 e _ fun H2 e2 => ⟨a, xs, rfl, .inl ⟨sq_of (e2 _ _ (e _ _ ha)), fun l hl => q l _ (fresh_back e2 hl) (e2.trans (Ex.new hl)) upd_same⟩⟩
section
variable {P : Program} {w : World} {K : PySem.W.Frag} {mg : Str → Option Value} {base : Heap}
theorem ok_someWays {f f1 f2 f3 : Addr} {fd fd1 fd2 fd3 : FuncData} {k : Nat} (F0 : Fun K "_law_some_ways" "_law_some_ways" sSomeWays f fd) (mr : mg "range" = none) (ml : mg "len" = none) (mt : mg "tuple" = none)
    (dD : Def P w K mg base (k + 2) "_law_draw" ["_law_tape_here", "_law_many"] spDraw f1 fd1) (dA : Def P w K mg base (k + 2) "_law_any_way" ["_law_tape_here", "_law_many", "_law_long"] spAnyWay f2 fd2)
    (dB : Def P w K mg base (k + 2) "_law_back" ["_law_word"] spBack f3 fd3) : FnOk P w K mg base CX0 (k + 3) f fd ["_law_tape_here", "_law_many", "_law_most", "_law_long"] spSomeWays := by
  refine F0.ok scSomeWays (fun vs H Q E h => ?_) (fun cdv A outer s H vs Q E hr h => ?_)
  · obtain ⟨t, ca, n, l, rfl, _⟩ := h
    rfl
  · obtain ⟨t, ca, n, l, rfl, T, n1, n6, l1, l8, z⟩ := h
    refine ⟨_, pss_cons (ps_set (i := 4) scSomeWays.nd rfl (.inl rfl) (pe_lst (pa_cons (pe_def dA hr (pa_cons (pv 0) (pa_cons (pv 1) (pa_cons (pv 3) pa_nil)))) pa_nil)))
      (pss_cons (ps_for PassesOwn.never rfl (pi_range1 rfl mr (pa_cons (pe_def dD hr (pa_cons (pv 0) (pa_cons (pv 2) pa_nil))) pa_nil)) (pg_name (i := 5) scSomeWays.nd rfl (Or.inl rfl))
        (pss_cons (ps_set (i := 6) scSomeWays.nd rfl (.inl rfl) (pe_def dA hr (pa_cons (pv 0) (pa_cons (pv 1) (pa_cons (pv 3) pa_nil)))))
        (pss_cut (ps_if (pt_cmpR op_eq (pe_def dD hr (pa_cons (pv 0) (pa_cons pe_int pa_nil))) pe_int (nomark _))
          (pss_cons (ps_set (i := 6) scSomeWays.nd rfl (.inl rfl) (pe_ix ix_list (pv 4) (pe_def dD hr (pa_cons (pv 0) (pa_cons (pe_callB call_len_seq (by rfl) ml PySem.boot_len (pa_cons (pv 4) pa_nil)) pa_nil))) (fun _ _ => rfl)))
          (pss_cons (ps_set (i := 7) scSomeWays.nd rfl (.inl rfl) (pe_def dD hr (pa_cons (pv 0) (pa_cons (pe_callB call_len (by rfl) ml PySem.boot_len (pa_cons (pv 6) pa_nil)) pa_nil))))
          (pss_cons (ps_set (i := 6) scSomeWays.nd rfl (.inl rfl) (pe_ix ix_list (pe_lst (pa_cons (pv 6) (pa_cons (pe_def dB hr (pa_cons (pv 6) pa_nil)) pa_nil))) (pe_def dD hr (pa_cons (pv 0) (pa_cons pe_int pa_nil))) (fun _ _ => rfl)))
          (pss_one (ps_set (i := 6) scSomeWays.nd rfl (.inl rfl) (pe_op op_add_str (pe_slice sl_str (pv 6) (po_some (pv 7)) po_none) (pe_slice sl_str (pv 6) po_none (po_some (pv 7))))))))) pss_nil)
        (pss_one (ps_expr (pe_bm PySem.F.plainAttrs_list PySem.F.slot_list_append PySem.F.type_list_append mt_append (pv 4) (pa_cons (pv 6) pa_nil)))))))
      (pss_one (ps_ret (pe_callTy call_tuple_of (by rfl) mt boot_tup (pa_cons (pv 4) pa_nil))))), ?_⟩
    refine q_do ?_
    show tCall spAnyWay [] E0 _ _ _ _
    refine way_go (ca := ca) (ea_cons (ev_var rfl) (ea_cons (ev_var rfl) (ea_cons (ev_var rfl) ea_nil))) T n1 n6 l1 l8 fun u0 H1 hu0 d1 => ?_
    refine ⟨by show 1 ≤ sizeLine; decide, fun ws nw => ?_⟩
    have nwt : ws ≠ t := d1.fresh nw
    have nwc : ws ≠ ca := fun e => by
      obtain ⟨cs, hc, _⟩ := d1.tp.cs
      rw [← e, nw] at hc
      cases hc
    have nwH := d1.back nw
    show tFor (iRng1 _) _ _ _ _ _
    show tCall spDraw [] E0 _ _ _ _
    have d1' : Dr t ca H (upd H1 ws (.lst [vS u0])) := d1.mut nwH nwt nwc
    refine draw_go (ca := ca) (ea_cons (ev_var rfl) (ea_cons (ev_var rfl) ea_nil)) d1'.tp (by decide) (by decide) fun m G m0 m1 dm => ?_
    refine ⟨m, rfl, by omega, by omega, ?_⟩
    refine for_range (lo := 0) (n := m.toNat) (fun i σ' G => ∃ y5 y6 y7, ∃ W : List Wd, σ' = [some (.ref t), some (.int (n : Int)), some (.int 3), some (.int (l : Int)), some (.ref ws), y5, y6, y7] ∧ Dr t ca H G ∧ G ws = some (.lst (W.map vS)) ∧ (∀ u ∈ W, Way n u) ∧ W.length = i + 1) ?_ (fun i σ' G hi hP => ?_) fun σ' G hP => ?_
    · exact ⟨none, none, none, [u0], rfl, d1'.trans dm, dm.ex ws _ nwt upd_same, (fun u hu => by rw [List.mem_singleton] at hu; rw [hu]; exact hu0), rfl⟩
    · obtain ⟨y5, y6, y7, W, rfl, d, hW, mW, lW⟩ := hP
      refine q_do ?_
      show tCall spAnyWay [] E0 _ _ _ _
      refine way_go (ca := ca) (ea_cons (ev_var rfl) (ea_cons (ev_var rfl) (ea_cons (ev_var rfl) ea_nil))) d.tp n1 n6 l1 l8 fun u1 G1 hu1 f1 => ?_
      have g1 := f1.ex ws _ nwt hW
      refine q_cut (M := fun σ' G => ∃ y5 y7, ∃ u : Wd, σ' = [some (.ref t), some (.int (n : Int)), some (.int 3), some (.int (l : Int)), some (.ref ws), y5, some (vS u), y7] ∧ Way n u ∧ Dr t ca H G ∧ G ws = some (.lst (W.map vS))) ?_ ?_
      · refine s_ifD (ca := ca) (ea_cons (ev_var rfl) (ea_cons ev_c ea_nil)) f1.tp (by decide) (by decide) (fun G2 d2 => ?_) fun G2 d2 => ⟨_, _, u1, rfl, hu1, (d.trans f1).trans d2, d2.ex ws _ nwt g1⟩
        have g2 := d2.ex ws _ nwt g1
        refine q_do ?_
        refine ⟨.ref ws, rfl, ?_⟩
        show tCall spDraw [] E0 _ _ _ _
        refine draw_go (ca := ca) (n := ((W.map vS).length : Int)) (ea_cons (ev_var rfl) (ea_cons (ev_len (K := K) (ev_var rfl) (sq_of g2)) ea_nil)) d2.tp (by rw [List.length_map]; omega) (by rw [List.length_map]; omega) fun r G3 r0 r1 d3 => ?_
        rw [List.length_map] at r1
        have hr2 : r.toNat < W.length := by omega
        have g3 := d3.ex ws _ nwt g2
        have ga : atI (W.map vS) r = some (vS W[r.toNat]) := by
          have := atI_nat (xs := W.map vS) (j := r.toNat) (v := vS W[r.toNat]) (by rw [List.getElem?_map, List.getElem?_eq_getElem hr2]; rfl)
          rw [Int.toNat_of_nonneg r0] at this
          exact this
        have hw := mW _ (List.getElem_mem hr2)
        generalize W[r.toNat] = u2 at *
        refine ⟨ws, W.map vS, r, vS u2, rfl, rfl, sq_of g3, ga, ?_⟩
        refine q_do ?_
        show tCall spDraw [] E0 _ _ _ _
        have hw8 := hw.few
        have hwp := hw.pos
        refine draw_go (ca := ca) (n := ((u2.length : Nat) : Int)) (ea_cons (ev_var rfl) (ea_cons (ev_lenS (ev_var rfl) (by omega)) ea_nil)) d3.tp (by omega) (by omega) fun a G4 a0 a1 d4 => ?_
        refine q_do ?_
        refine el_lst (ea_cons (ev_var rfl) (ea_cons (ev_call (ea_cons (ev_var rfl) ea_nil) (spBack_V (u := u2) (fun c hc => isLK_mono (hw.let_ c hc) n6) (by omega))) ea_nil)) (by show 2 ≤ 100000; decide) G4 (Ex.refl _) _ fun p G5 np e5 h5 => ?_
        show tCall spDraw [] E0 _ _ _ _
        have npt : p ≠ t := d4.fresh np
        refine draw_go (ca := ca) (ea_cons (ev_var rfl) (ea_cons ev_c ea_nil)) (d4.tp.ex e5) (by decide) (by decide) fun b G6 b0 b1 d6 => ?_
        have g6 := d6.ex ws _ nwt (e5 _ _ (d4.ex ws _ nwt g3))
        have h6 := d6.ex p _ npt h5
        have hb2 : ∃ u3, atI [vS u2, vS (bw u2)] b = some (vS u3) ∧ Way n u3 := by
          have : b = 0 ∨ b = 1 := by omega
          rcases this with rfl | rfl
          · exact ⟨u2, atI_nat (j := 0) rfl, hw⟩
          · exact ⟨bw u2, atI_nat (j := 1) rfl, hw.back n6⟩
        obtain ⟨u3, ga3, hw3⟩ := hb2
        have l3 : u3.length = u2.length := by
          have : b = 0 ∨ b = 1 := by omega
          rcases this with rfl | rfl
          · have e := (atI_nat (xs := [vS u2, vS (bw u2)]) (j := 0) (v := vS u2) rfl)
            have e2 : some (vS u2) = some (vS u3) := e.symm.trans ga3
            rw [S_inj (V.str.inj (Option.some.inj e2))]
          · have e := (atI_nat (xs := [vS u2, vS (bw u2)]) (j := 1) (v := vS (bw u2)) rfl)
            have e2 : some (vS (bw u2)) = some (vS u3) := e.symm.trans ga3
            rw [← S_inj (V.str.inj (Option.some.inj e2)), bw_len]
        refine ⟨p, [vS u2, vS (bw u2)], b, vS u3, rfl, rfl, sq_of h6, ga3, ?_⟩
        have ea : a = ((a.toNat : Nat) : Int) := by omega
        refine s_asg (ev_cat (u := u3.drop a.toNat) (v := u3.take a.toNat) (ev_from (ev_var rfl) (ev_is (ev_var rfl) (congrArg V.int ea)) (by omega)) (ev_to (ev_var rfl) (ev_is (ev_var rfl) (congrArg V.int ea)) (by omega)) (by rw [List.length_drop, List.length_take]; omega)) fun G7 e7 => ?_
        exact ⟨_, _, rot u3 a.toNat, rfl, hw3.rot (by omega), ((((d.trans f1).trans d2).trans d3).trans d4).trans ((d4.tp.dr e5).trans (d6.plus e7)), e7 _ _ g6⟩
      · intro σ' G2 hM
        obtain ⟨y5, y7, u, rfl, hu, d2, g2⟩ := hM
        refine s_app g2 (ev_var rfl) (ev_var rfl) (by rw [List.length_map]; omega) fun G3 e3 => ?_
        refine ⟨_, _, _, W ++ [u], rfl, (d2.plus e3).mut nwH nwt nwc, by rw [upd_same, List.map_append]; rfl, fun v hv => ?_, by rw [List.length_append, lW]; rfl⟩
        rcases List.mem_append.mp hv with h | h
        · exact mW v h
        · rw [List.mem_singleton] at h
          rw [h]
          exact hu
    · obtain ⟨y5, y6, y7, W, rfl, d, hW, mW, lW⟩ := hP
      refine eu_tupOfL (K := K) (ev_var rfl) hW G (Ex.refl _) _ fun p G2 np e2 h2 => ?_
      exact z p W G2 h2 mW (by omega) (by omega) (d.plus e2)
end

/-! ### _law_other_names -/
structure Ren (n : Nat) (r : Nat → Nat) : Prop where
  is_ : ∀ c, isLK n c → isLK n (r c)
  bk_ : ∀ c, isLK n c → r (bk c) = bk (r c)
  inj : ∀ c, isLK n c → ∀ d, isLK n d → r c = r d → c = d
def NamesD (H : Hp) (D : Addr) (n : Nat) (r : Nat → Nat) : Prop := ∃ kvs, H D = some (.dK kvs) ∧ ∀ c, isLK n c → valV kvs (.inr (S [c])) = some (vS [r c])
def spOtherNames : Sp := fun vs H Q _ => ∃ (t ca : Addr) (n : Nat), vs = [.ref t, .int (n : Int)] ∧ Tp H t ca ∧ 1 ≤ n ∧ n ≤ 6 ∧ ∀ D r H', NamesD H' D n r → Ren n r → H D = none → Dr t ca H H' → Q (.ref D) H'
def low (c : Nat) : Nat := if 97 ≤ c then c else c + 32
theorem low_bk {n c : Nat} (hn : n ≤ 6) (h : isLK n c) : low (bk c) = low c := by
  unfold isLK at h
  unfold low bk
  repeat' split
  all_goals omega
theorem era_perm {c : Nat} : ∀ {L : Wd} {k : Nat}, L[k]? = some c → (c :: L.eraseIdx k).Perm L
  | [], _, h => by simp at h
  | a :: L, 0, h => by
    have e : a = c := by simpa using h
    subst e
    exact List.Perm.refl _
  | a :: L, k + 1, h => by
    have ih := era_perm (L := L) (k := k) (c := c) (by simpa using h)
    rw [List.eraseIdx_cons_succ]
    exact (List.Perm.swap a c _).trans (List.Perm.cons a ih)
theorem putL {κ : Type} [DecidableEq κ] (c : List (κ × V)) (k : κ) (x : V) : (putK c k x).length ≤ c.length + 1 := by
  unfold putK
  by_cases e : (c.any fun kv => decide (kv.1 = k)) = true
  · rw [if_pos e, List.length_map]
    omega
  · rw [if_neg e, List.length_append]
    simp
/-- the names so far -/
structure Nm (n i : Nat) (L : Wd) (kvs : List (Key × V)) (g : Nat → Nat) : Prop where
  nd : L.Nodup
  lo : ∀ c ∈ L, 97 ≤ c ∧ c < 97 + n
  len : L.length + i = n
  few : kvs.length ≤ 2 * i
  is_ : ∀ j, j < i → isLK n (g j)
  out : ∀ j, j < i → low (g j) ∉ L
  ne : ∀ j j', j < i → j' < i → low (g j) = low (g j') → j = j'
  a : ∀ j, j < i → valV kvs (.inr (S [97 + j])) = some (vS [g j])
  b : ∀ j, j < i → valV kvs (.inr (S [65 + j])) = some (vS [bk (g j)])
theorem S1_ne {a b : Nat} (h : a ≠ b) : ¬ ((Sum.inr (S [a]) : Key) = Sum.inr (S [b])) := fun e => h (by
  have := S_inj (Sum.inr.inj e)
  simpa using this)
theorem Nm.done {n : Nat} {L : Wd} {kvs : List (Key × V)} {g : Nat → Nat} (h : Nm n n L kvs g) (hn : n ≤ 6) : ∃ r, Ren n r ∧ ∀ c, isLK n c → valV kvs (.inr (S [c])) = some (vS [r c]) := by
  have cs : ∀ c, isLK n c → ∃ j, j < n ∧ (c = 97 + j ∨ c = 65 + j) := fun c hc => by
    unfold isLK at hc
    rcases hc with hc | hc
    · exact ⟨c - 97, by omega, .inl (by omega)⟩
    · exact ⟨c - 65, by omega, .inr (by omega)⟩
  let r : Nat → Nat := fun c => if 97 ≤ c then g (c - 97) else bk (g (c - 65))
  have ra : ∀ j, r (97 + j) = g j := fun j => by
    show (if 97 ≤ 97 + j then g (97 + j - 97) else _) = _
    rw [if_pos (by omega), show 97 + j - 97 = j by omega]
  have rb : ∀ j, j < n → r (65 + j) = bk (g j) := fun j hj => by
    show (if 97 ≤ 65 + j then _ else bk (g (65 + j - 65))) = _
    rw [if_neg (by omega), show 65 + j - 65 = j by omega]
  have ba : ∀ j, j < n → bk (97 + j) = 65 + j := fun j hj => by
    unfold bk
    rw [if_pos (by omega)]
    omega
  have bb : ∀ j, j < n → bk (65 + j) = 97 + j := fun j hj => by
    unfold bk
    rw [if_neg (by omega)]
    omega
  refine ⟨r, ⟨fun c hc => ?_, fun c hc => ?_, fun c hc d hd e => ?_⟩, fun c hc => ?_⟩
  · obtain ⟨j, hj, rfl | rfl⟩ := cs c hc
    · rw [ra]
      exact h.is_ j hj
    · rw [rb j hj]
      exact bk_isLK hn (h.is_ j hj)
  · obtain ⟨j, hj, rfl | rfl⟩ := cs c hc
    · rw [ba j hj, ra, rb j hj]
    · rw [bb j hj, ra, rb j hj, bk_bk hn (h.is_ j hj)]
  · obtain ⟨j, hj, hc2⟩ := cs c hc
    obtain ⟨j', hj', hd2⟩ := cs d hd
    have lc : low (r c) = low (g j) := by
      rcases hc2 with rfl | rfl
      · rw [ra]
      · rw [rb j hj, low_bk hn (h.is_ j hj)]
    have ld : low (r d) = low (g j') := by
      rcases hd2 with rfl | rfl
      · rw [ra]
      · rw [rb j' hj', low_bk hn (h.is_ j' hj')]
    have ej := h.ne j j' hj hj' (by rw [← lc, ← ld, e])
    subst ej
    rcases hc2 with rfl | rfl <;> rcases hd2 with rfl | rfl
    · rfl
    · rw [ra, rb j hj] at e
      exact absurd e.symm (bk_ne _)
    · rw [ra, rb j hj] at e
      exact absurd e (bk_ne _)
    · rfl
  · obtain ⟨j, hj, rfl | rfl⟩ := cs c hc
    · rw [ra]
      exact h.a j hj
    · rw [rb j hj]
      exact h.b j hj
theorem Nm.add {n i k c0 c : Nat} {L : Wd} {kvs : List (Key × V)} {g : Nat → Nat} (h : Nm n i L kvs g) (hn : n ≤ 6) (hi : i < n) (hk : L[k]? = some c0) (hc : c = c0 ∨ c = bk c0) :
    Nm n (i + 1) (L.eraseIdx k) (putK (putK kvs (.inr (S [97 + i])) (vS [c])) (.inr (S [65 + i])) (vS [bk c])) (fun j => if j = i then c else g j) := by
  have pm := era_perm hk
  have nd := pm.nodup_iff.mpr h.nd
  have c0L := h.lo c0 (pm.mem_iff.mp List.mem_cons_self)
  have hlow : low c = c0 := by
    unfold low
    rcases hc with rfl | rfl
    · rw [if_pos c0L.1]
    · unfold bk
      rw [if_pos c0L.1, if_neg (by omega)]
      omega
  have isc : isLK n c := by
    unfold isLK
    rcases hc with rfl | rfl
    · omega
    · unfold bk
      rw [if_pos c0L.1]
      omega
  have sub : ∀ x ∈ L.eraseIdx k, x ∈ L := fun x hx => pm.mem_iff.mp (List.mem_cons_of_mem _ hx)
  have nin : c0 ∉ L.eraseIdx k := (List.nodup_cons.mp nd).1
  have c0in : c0 ∈ L := pm.mem_iff.mp List.mem_cons_self
  refine ⟨(List.nodup_cons.mp nd).2, fun x hx => h.lo x (sub x hx), ?_, ?_, fun j hj => ?_, fun j hj => ?_, fun j j' hj hj' e => ?_, fun j hj => ?_, fun j hj => ?_⟩
  · have := pm.length_eq
    have := h.len
    rw [List.length_cons] at *
    omega
  · have h1 := putL (putK kvs (.inr (S [97 + i])) (vS [c])) (.inr (S [65 + i])) (vS [bk c])
    have h2 := putL kvs (.inr (S [97 + i])) (vS [c])
    have := h.few
    omega
  · show isLK n (if j = i then c else g j)
    split
    · exact isc
    · exact h.is_ j (by omega)
  · show low (if j = i then c else g j) ∉ _
    split
    · rw [hlow]
      exact nin
    · exact fun q => h.out j (by omega) (sub _ q)
  · have e' : low (if j = i then c else g j) = low (if j' = i then c else g j') := e
    split at e' <;> split at e'
    · omega
    · rw [hlow] at e'
      exact absurd (e' ▸ c0in) (h.out j' (by omega))
    · rw [hlow] at e'
      exact absurd (e'.symm ▸ c0in) (h.out j (by omega))
    · exact h.ne j j' (by omega) (by omega) e'
  · rw [valV_put, if_neg (S1_ne (by omega)), valV_put]
    show _ = some (vS [if j = i then c else g j])
    by_cases q : j = i
    · rw [if_pos q, if_pos (by rw [q])]
    · rw [if_neg q, if_neg (S1_ne (by omega))]
      exact h.a j (by omega)
  · rw [valV_put]
    show _ = some (vS [bk (if j = i then c else g j)])
    by_cases q : j = i
    · rw [if_pos q, if_pos (by rw [q])]
    · rw [if_neg q, if_neg (S1_ne (by omega)), valV_put, if_neg (S1_ne (by omega))]
      exact h.b j (by omega)
end RW
set_option Elab.async false
set_option linter.all false
set_option maxRecDepth 100000
set_option maxHeartbeats 4000000
namespace RW
open PySem PySem.Spec PyProof.Rows L2 SX Evl

theorem small_take {n : Nat} (h : n ≤ 6) {i c : Nat} (hc : ([97, 98, 99, 100, 101, 102].take n)[i]? = some c) : c = 97 + i ∧ i < n := by
  have hi : i < n := by
    have := (List.getElem?_eq_some_iff.mp hc).1
    rw [List.length_take] at this
    omega
  rw [List.getElem?_take_of_lt hi] at hc
  refine ⟨?_, hi⟩
  match i, (show i < 6 by omega) with
  | 0, _ => exact (Option.some.inj hc).symm
  | 1, _ => exact (Option.some.inj hc).symm
  | 2, _ => exact (Option.some.inj hc).symm
  | 3, _ => exact (Option.some.inj hc).symm
  | 4, _ => exact (Option.some.inj hc).symm
  | 5, _ => exact (Option.some.inj hc).symm
theorem era_oneL : ∀ (L : Wd) (k : Nat), (oneL L).eraseIdx k = oneL (L.eraseIdx k)
  | [], _ => rfl
  | a :: L, 0 => rfl
  | a :: L, k + 1 => by
    show (vS [a] :: oneL L).eraseIdx (k + 1) = oneL (a :: L.eraseIdx k)
    rw [List.eraseIdx_cons_succ, era_oneL L k]
    rfl
theorem small_nd : ([97, 98, 99, 100, 101, 102] : Wd).Nodup := by decide
section
variable {P : Program} {w : World} {K : PySem.W.Frag} {mg : Str → Option Value} {base : Heap}
theorem ok_otherNames {f f1 f2 : Addr} {fd fd1 fd2 : FuncData} {k : Nat} (F0 : Fun K "_law_other_names" "_law_other_names" sOtherNames f fd) (ml : mg "len" = none) (mt : mg "list" = none)
    (dD : Def P w K mg base (k + 2) "_law_draw" ["_law_tape_here", "_law_many"] spDraw f1 fd1) (dB : Def P w K mg base (k + 2) "_law_back" ["_law_word"] spBack f2 fd2) : FnOk P w K mg base CX0 (k + 3) f fd ["_law_tape_here", "_law_many"] spOtherNames := by
  refine F0.ok scOtherNames (fun vs H Q E h => ?_) (fun cdv A outer s H vs Q E hr h => ?_)
  · obtain ⟨t, ca, n, rfl, _⟩ := h
    rfl
  · obtain ⟨t, ca, n, rfl, T, n1, n6, z⟩ := h
    have hu1 := hr.units
    have hu2 : (cxOf CX0 P w K mg base ["_law_tape_here", "_law_many", "_law_left", "_law_names", "_law_sign", "_law_name"] "_law_other_names" (defScope sOtherNames) f cdv A outer s H E).nox.A.units + 1 < cLine := by
      have := hr.units
      show (A.deeper (envOfC "_law_other_names" (defScope sOtherNames) s.heap.objs.size f cdv)).units + 1 < cLine
      omega
    refine ⟨_, pss_cons (ps_set (i := 2) scOtherNames.nd rfl (.inl rfl) (pe_callTy (cr_listS rfl) (by rfl) mt boot_list (pa_cons (pe_slice sl_str pe_str po_none (po_some (pv 1))) pa_nil)))
      (pss_cons (ps_set (i := 3) scOtherNames.nd rfl (.inl rfl) pe_dnewK)
      (pss_cons (ps_for PassesOwn.never rfl (pi_str (pe_slice sl_str pe_str po_none (po_some (pv 1)))) (pg_name (i := 4) scOtherNames.nd rfl (Or.inl rfl))
        (pss_cons (ps_set (i := 5) scOtherNames.nd rfl (.inl rfl) (pe_bm PySem.F.plainAttrs_list PySem.F.slot_list_pop PySem.F.type_list_pop mt_popAt (pv 2) (pa_cons (pe_def dD hr (pa_cons (pv 0) (pa_cons (pe_callB call_len_seq (by rfl) ml PySem.boot_len (pa_cons (pv 2) pa_nil)) pa_nil))) pa_nil)))
        (pss_cut (ps_if (pt_cmpR op_eq (pe_def dD hr (pa_cons (pv 0) (pa_cons pe_int pa_nil))) pe_int (nomark _)) (pss_one (ps_set (i := 5) scOtherNames.nd rfl (.inl rfl) (pe_upper (pv 5)))) pss_nil)
        (pss_cons (ps_dput hu2 (pv 3) (pv 4) (pv 5) (by rfl))
        (pss_one (ps_dput hu2 (pv 3) (pe_upper (pv 4)) (pe_def dB hr (pa_cons (pv 5) pa_nil)) (by rfl)))))))
      (pss_one (ps_ret (pv 3))))), ?_⟩
    refine q_do ?_
    have e1 : Ev (tSl rSlS (tC (.str "abcdef")) tNoPart (tPart (tVar 1))) (start ["_law_tape_here", "_law_many", "_law_left", "_law_names", "_law_sign", "_law_name"] [.ref t, .int (n : Int)]) H (vS ([97, 98, 99, 100, 101, 102].take n)) := ev_to (ev_is ev_c (by rw [small_S])) (ev_var rfl) (by decide)
    refine e1 H (Ex.refl _) _ fun H1 f1 => ?_
    have lt : ([97, 98, 99, 100, 101, 102].take n : Wd).length = n := by
      rw [List.length_take]
      simp
      omega
    refine ⟨_, rfl, by rw [S_len, lt]; exact sz_of (by omega), fun ll nl => ?_⟩
    have el : (S ([97, 98, 99, 100, 101, 102].take n)).cps.toList.map oneS = oneL ([97, 98, 99, 100, 101, 102].take n) := rfl
    rw [el]
    refine q_do ?_
    intro D nD
    have f2 : Ex H1 (upd H1 ll (.lst (oneL ([97, 98, 99, 100, 101, 102].take n)))) := Ex.new nl
    have f3 : Ex _ (upd (upd H1 ll (.lst (oneL ([97, 98, 99, 100, 101, 102].take n)))) D (.dK [])) := Ex.new nD
    have nlD : ll ≠ D := fun e => by
      rw [← e, upd_same] at nD
      cases nD
    have dd := T.dr ((f1.trans f2).trans f3)
    have nlH := fresh_back f1 nl
    have nDH := fresh_back (f1.trans f2) nD
    have nlt : ll ≠ t := T.fresh nlH
    have nDt : D ≠ t := T.fresh nDH
    have nca : ∀ {p : Addr}, H p = none → p ≠ ca := fun {p} hp e => by
      obtain ⟨cs, hc, _⟩ := T.cs
      rw [← e, hp] at hc
      cases hc
    have gl : (upd (upd H1 ll (.lst (oneL ([97, 98, 99, 100, 101, 102].take n)))) D (.dK [])) ll = some (.lst (oneL ([97, 98, 99, 100, 101, 102].take n))) := by
      rw [updO nlD, upd_same]
    have gD : (upd (upd H1 ll (.lst (oneL ([97, 98, 99, 100, 101, 102].take n)))) D (.dK [])) D = some (.dK []) := upd_same
    generalize upd (upd H1 ll (.lst (oneL ([97, 98, 99, 100, 101, 102].take n)))) D (.dK []) = G0 at *
    show tFor (iStr _) _ _ _ _ _
    have e2 : Ev (tSl rSlS (tC (.str "abcdef")) tNoPart (tPart (tVar 1))) (((start ["_law_tape_here", "_law_many", "_law_left", "_law_names", "_law_sign", "_law_name"] [.ref t, .int (n : Int)]).set 2 (some (.ref ll))).set 3 (some (.ref D))) G0 (vS ([97, 98, 99, 100, 101, 102].take n)) := ev_to (ev_is ev_c (by rw [small_S])) (ev_var rfl) (by decide)
    refine e2 G0 (Ex.refl _) _ fun G1 g1 => ?_
    have dd1 := dd.plus g1
    refine ⟨_, rfl, ?_⟩
    refine for_it walk_str (fun i σ' G => ∃ y4 y5, ∃ L : Wd, ∃ kvs g, σ' = [some (.ref t), some (.int (n : Int)), some (.ref ll), some (.ref D), y4, y5] ∧ Dr t ca H G ∧ G ll = some (.lst (oneL L)) ∧ G D = some (.dK kvs) ∧ Nm n i L kvs g) ?_ (fun _ _ _ _ _ => trivial)
      (fun i x σ' G G' hi hP hx => ?_) fun σ' G hP => ?_
    · refine ⟨none, none, _, [], fun _ => 0, rfl, dd1, g1 _ _ gl, g1 _ _ gD, (List.take_sublist _ _).nodup small_nd, fun c hc => ?_, by rw [lt]; omega, Nat.le_refl _, (fun j hj => by omega), (fun j hj => by omega), (fun j j' hj => by omega), (fun j hj => by omega), fun j hj => by omega⟩
      obtain ⟨i, hi⟩ := List.mem_iff_getElem?.mp hc
      have := small_take n6 hi
      omega
    · obtain ⟨y4, y5, L, kvs, g, rfl, d, hL, hK, N⟩ := hP
      obtain ⟨rfl, c, hc, rfl⟩ := hx
      have hc' : ([97, 98, 99, 100, 101, 102].take n)[i]? = some c := by
        have : (S ([97, 98, 99, 100, 101, 102].take n)).cps[i]? = ([97, 98, 99, 100, 101, 102].take n)[i]? := List.getElem?_toArray
        rw [← this]
        exact hc
      obtain ⟨rfl, hin⟩ := small_take n6 hc'
      refine q_do ?_
      refine ⟨.ref ll, rfl, .inl ⟨rfl, _, sq_of hL⟩, ?_⟩
      show tCall spDraw [] E0 _ _ _ _
      have lL := N.len
      refine draw_go (ca := ca) (n := ((oneL L).length : Int)) (ea_cons (ev_var rfl) (ea_cons (ev_len (K := K) (ev_var rfl) (sq_of hL)) ea_nil)) d.tp (by rw [oneL_len]; omega) (by rw [oneL_len]; omega) fun r G2 r0 r1 d2 => ?_
      rw [oneL_len] at r1
      have hr2 : r.toNat < L.length := by omega
      obtain ⟨c0, hc0⟩ : ∃ c0, L[r.toNat]? = some c0 := ⟨_, List.getElem?_eq_getElem hr2⟩
      have hL2 := d2.ex ll _ nlt hL
      have hK2 := d2.ex D _ nDt hK
      refine ⟨ll, oneL L, r, r.toNat, vS [c0], rfl, rfl, hL2, by omega, by omega, ?_, by rw [oneL_get, hc0]; rfl, ?_⟩
      · rw [oneL_len]
        unfold seqIndex?
        simp only [if_neg (show ¬ r < 0 by omega)]
        rw [if_pos (by simp; omega)]
      rw [era_oneL]
      have d3 : Dr t ca H (upd G2 ll (.lst (oneL (L.eraseIdx r.toNat)))) := (d.trans d2).mut nlH nlt (nca nlH)
      have hL3 : (upd G2 ll (.lst (oneL (L.eraseIdx r.toNat)))) ll = some (.lst (oneL (L.eraseIdx r.toNat))) := upd_same
      have hK3 : (upd G2 ll (.lst (oneL (L.eraseIdx r.toNat)))) D = some (.dK kvs) := by
        rw [updO (Ne.symm nlD)]
        exact hK2
      generalize upd G2 ll (.lst (oneL (L.eraseIdx r.toNat))) = G3 at *
      have c0L := N.lo c0 (List.mem_of_getElem? hc0)
      have c6 : isLK 6 c0 := by
        unfold isLK
        omega
      refine q_cut (M := fun σ' G => ∃ c, σ' = [some (.ref t), some (.int (n : Int)), some (.ref ll), some (.ref D), some (vS [97 + i]), some (vS [c])] ∧ (c = c0 ∨ c = bk c0) ∧ Dr t ca H G ∧ G ll = some (.lst (oneL (L.eraseIdx r.toNat))) ∧ G D = some (.dK kvs)) ?_ ?_
      · refine s_ifD (ca := ca) (ea_cons (ev_var rfl) (ea_cons ev_c ea_nil)) d3.tp (by decide) (by decide) (fun G4 d4 => ?_) fun G4 d4 => ⟨c0, rfl, .inl rfl, d3.trans d4, d4.ex _ _ nlt hL3, d4.ex _ _ nDt hK3⟩
        have e97 : c0 = 97 + (c0 - 97) := by omega
        refine s_asg (v := vS [bk c0]) (by rw [e97]; exact ev_up (by rw [← e97]; exact ev_var rfl) (by omega)) fun G5 f5 => ⟨bk c0, rfl, .inr rfl, (d3.trans d4).plus f5, f5 _ _ (d4.ex _ _ nlt hL3), f5 _ _ (d4.ex _ _ nDt hK3)⟩
      · intro σ' G4 hM
        obtain ⟨c, rfl, hcc, d4, hL4, hK4⟩ := hM
        have isc : isLK 6 c := by
          rcases hcc with rfl | rfl
          · exact c6
          · exact bk_isLK (Nat.le_refl 6) c6
        refine ⟨vS [c], rfl, .ref D, rfl, vS [97 + i], rfl, D, _, rfl, DPut.k (k := .inr (S [97 + i])) hK4 (sz_lt (by have := N.few; omega)), ?_⟩
        have d5 : Dr t ca H (upd G4 D (.dK (putK kvs (.inr (S [97 + i])) (vS [c])))) := d4.mut nDH nDt (nca nDH)
        have hL5 : (upd G4 D (.dK (putK kvs (.inr (S [97 + i])) (vS [c])))) ll = some (.lst (oneL (L.eraseIdx r.toNat))) := by
          rw [updO nlD]
          exact hL4
        have hK5 : (upd G4 D (.dK (putK kvs (.inr (S [97 + i])) (vS [c])))) D = some (.dK (putK kvs (.inr (S [97 + i])) (vS [c]))) := upd_same
        generalize upd G4 D (.dK (putK kvs (.inr (S [97 + i])) (vS [c]))) = G5 at *
        have eb : Ev (tCall spBack [] E0 (tCons (tVar 5) tNil)) [some (.ref t), some (.int (n : Int)), some (.ref ll), some (.ref D), some (vS [97 + i]), some (vS [c])] G5 (vS [bk c]) := ev_call (ea_cons (ev_var rfl) ea_nil) (spBack_V (u := [c]) (fun x hx => by rw [List.mem_singleton] at hx; rw [hx]; exact isc) (by show 1 ≤ 1000; decide))
        refine eb G5 (Ex.refl _) _ fun G6 f6 => ?_
        refine ⟨.ref D, rfl, ?_⟩
        refine ev_up (k := i) (ev_var rfl) (by omega) G6 (Ex.refl _) _ fun G7 f7 => ?_
        have e65 : bk (97 + i) = 65 + i := by
          unfold bk
          rw [if_pos (by omega)]
          omega
        rw [e65]
        have hK7 := f7 _ _ (f6 _ _ hK5)
        have hL7 := f7 _ _ (f6 _ _ hL5)
        refine ⟨D, _, rfl, DPut.k (k := .inr (S [65 + i])) hK7 (sz_lt (by have := N.few; have := putL kvs (.inr (S [97 + i])) (vS [c]); omega)), ?_⟩
        exact ⟨_, _, _, _, _, rfl, ((d5.plus f6).plus f7).mut nDH nDt (nca nDH), by rw [updO nlD]; exact hL7, upd_same, N.add n6 hin hc0 hcc⟩
    · obtain ⟨y4, y5, L, kvs, g, rfl, d, hL, hK, N⟩ := hP
      have en : (S ([97, 98, 99, 100, 101, 102].take n)).cps.size = n := by
        show ([97, 98, 99, 100, 101, 102].take n).toArray.size = n
        rw [List.size_toArray, lt]
      rw [en] at N
      obtain ⟨r, hr1, hr2⟩ := N.done n6
      exact s_ret (ev_var rfl) fun G2 f2 => z D r G2 ⟨kvs, f2 _ _ hK, hr2⟩ hr1 nDH (d.plus f2)
end

/-! ### _law_renamed_word -/
def spRenamed : Sp := fun vs H Q _ => ∃ (D : Addr) (n : Nat) (r : Nat → Nat) (u : Wd), vs = [.ref D, vS u] ∧ NamesD H D n r ∧ (∀ c ∈ u, isLK n c) ∧ u.length ≤ 1000 ∧ RetV (vS (u.map r)) H Q
theorem NamesD.ex {H H' : Hp} {D : Addr} {n : Nat} {r : Nat → Nat} (h : NamesD H D n r) (e : Ex H H') : NamesD H' D n r := by
  obtain ⟨kvs, h1, h2⟩ := h
  exact ⟨kvs, e _ _ h1, h2⟩
theorem spRenamed_V {H : Hp} {D : Addr} {n : Nat} {r : Nat → Nat} {u : Wd} (h : NamesD H D n r) (h2 : ∀ c ∈ u, isLK n c) (h3 : u.length ≤ 1000) : SpV spRenamed [.ref D, vS u] H (vS (u.map r)) := fun H1 e Q z E => ⟨D, n, r, u, rfl, h.ex e, h2, h3, z⟩
section
variable {P : Program} {w : World} {K : PySem.W.Frag} {mg : Str → Option Value} {base : Heap}
theorem ok_renamed {f : Addr} {fd : FuncData} {k : Nat} (F0 : Fun K "_law_renamed_word" "_law_renamed_word" sRenamedWord f fd) : FnOk P w K mg base CX0 (k + 1) f fd ["_law_names", "_law_word"] spRenamed := by
  refine F0.ok scRenamedWord (fun vs H Q E h => ?_) (fun cdv A outer s H vs Q E hr h => ?_)
  · obtain ⟨D, n, r, u, rfl, _⟩ := h
    rfl
  · obtain ⟨D, n, r, u, rfl, hD, hu, hl, z⟩ := h
    have hu1 := hr.units
    refine ⟨_, pss_one (ps_ret (pe_join pe_str (pe_lc (own := [("_law_sign", 2)]) (g := gName 2) rfl scRenamedWord.nd (pi_str (pv 1)) (blkOk_by (N := ["_law_names", "_law_word", "_law_sign"]) (sc := defScope sRenamedWord) (by decide +kernel))
      (fun _ _ _ _ _ => pg_name (i := 2) scRenamedWord.nd rfl (Or.inl rfl)) (fun _ _ _ _ _ => pts_nil) (fun _ _ _ _ _ => pe_dget (by show (A.deeper _).units + 1 < cLine; omega) (pv 0) (pv 2) (fun _ _ => rfl))))), ?_⟩
    refine s_ret (ev_joinL (ws := (u.map r).map fun c => [c]) nil_S (el_mapS (u := u) _ (ev_var rfl) ?_ ?_ (fun _ => rfl) (fun i c y H1 e hc hy => ?_)) ?_) fun H1 e1 => ?_
    · rw [List.length_map, List.length_map, List.length_map]
    · omega
    · have e0 : y = vS [r c] := by
        rw [List.getElem?_map, List.getElem?_map, List.getElem?_map, hc] at hy
        exact (Option.some.inj hy).symm
      subst e0
      obtain ⟨kvs, h1, h2⟩ := hD.ex e
      intro H2 e2 Q q
      refine ⟨_, rfl, _, rfl, D, vS [r c], rfl, ?_, q H2 (Ex.refl _)⟩
      have := DGet.k (k := .inr (S [c])) (e2 _ _ h1)
      rw [h2 c (hu c (List.mem_of_getElem? hc))] at this
      exact this
    · rw [flat_one, List.length_map]
      omega
    · rw [flat_one]
      exact z H1 e1
end
end RW
set_option Elab.async false
set_option linter.all false
set_option maxRecDepth 100000
set_option maxHeartbeats 4000000
namespace RW
open PySem PySem.Spec PyProof.Rows L2 SX Evl

/-! ### lists of data -/
inductive LsT (H : Hp) : List V → List (List PyData) → Prop
  | nil : LsT H [] []
  | cons {l : Addr} {xs : List V} {ds : List PyData} {vs : List V} {dss : List (List PyData)} (h : H l = some (.lst xs)) (t : TDs H xs ds) (r : LsT H vs dss) : LsT H (.ref l :: vs) (ds :: dss)
theorem LsT.ex {H H' : Hp} (e : Ex H H') : ∀ {vs : List V} {dss : List (List PyData)}, LsT H vs dss → LsT H' vs dss
  | _, _, .nil => .nil
  | _, _, .cons h t r => .cons (e _ _ h) (t.ex e) (LsT.ex e r)
theorem LsT.upd {H : Hp} {l : Addr} {ys zs : List V} (hl : H l = some (.lst ys)) : ∀ {vs : List V} {dss : List (List PyData)}, LsT H vs dss → V.ref l ∉ vs → LsT (upd H l (.lst zs)) vs dss
  | _, _, .nil, _ => .nil
  | _, _, .cons (l := l') h t r, hn => .cons (by rw [updO (fun e => hn (by rw [e]; exact List.mem_cons_self))]; exact h) (t.upd hl) (LsT.upd hl r fun q => hn (List.mem_cons_of_mem _ q))
theorem LsT.append {H : Hp} : ∀ {vs us : List V} {dss ess : List (List PyData)}, LsT H vs dss → LsT H us ess → LsT H (vs ++ us) (dss ++ ess)
  | _, _, _, _, .nil, h => h
  | _, _, _, _, .cons h t r, h' => .cons h t (LsT.append r h')
theorem LsT.length {H : Hp} : ∀ {vs : List V} {dss : List (List PyData)}, LsT H vs dss → vs.length = dss.length
  | _, _, .nil => rfl
  | _, _, .cons _ _ r => by rw [List.length_cons, List.length_cons, LsT.length r]
theorem LsT.not {H : Hp} {l : Addr} (hl : H l = none) : ∀ {vs : List V} {dss : List (List PyData)}, LsT H vs dss → V.ref l ∉ vs
  | _, _, .nil => fun h => by cases h
  | _, _, .cons h t r => fun q => by
    rcases List.mem_cons.mp q with e | e
    · cases e
      rw [hl] at h
      cases h
    · exact LsT.not hl r e
theorem LsT.dp {K : PySem.W.Frag} {H : Hp} : ∀ {vs : List V} {dss : List (List PyData)}, LsT H vs dss → DpAll K H vs (dss.map PyData.list)
  | _, _, .nil => .nil
  | _, _, .cons h t r => .cons (.lst (sq_of h) (TDs.dp _ _ t)) (LsT.dp r)
theorem LsT.at {H : Hp} : ∀ {vs : List V} {dss : List (List PyData)} {i : Nat} {x : V} {ds : List PyData}, LsT H vs dss → vs[i]? = some x → dss[i]? = some ds → ∃ l xs, x = .ref l ∧ H l = some (.lst xs) ∧ xs.length = ds.length
  | _, _, _, _, _, .nil, h, _ => by simp at h
  | _, _, 0, _, _, .cons h t r, hx, hd => by
    have e1 := (Option.some.inj hx).symm
    have e2 := (Option.some.inj hd).symm
    subst e1
    subst e2
    exact ⟨_, _, rfl, h, t.length⟩
  | _, _, i + 1, _, _, .cons h t r, hx, hd => LsT.at r (by simpa using hx) (by simpa using hd)

/-! ### _law_asked_so -/
def askRow (F : Wd) (W : List Wd) (i : Nat) : List (List PyData) := (List.range (W.length - i)).map fun m => sortD (linksD F (W.getD i []) (W.getD (i + m) []) i (i + m))
def askD (F : Wd) (W : List Wd) : List (List PyData) := (List.range W.length).flatMap (askRow F W)
def AskT (H : Hp) (r : Addr) (dss : List (List PyData)) : Prop := ∃ vs, H r = some (.lst vs) ∧ LsT H vs dss
theorem AskT.ex {H H' : Hp} {r : Addr} {dss : List (List PyData)} (h : AskT H r dss) (e : Ex H H') : AskT H' r dss := by
  obtain ⟨vs, h1, h2⟩ := h
  exact ⟨vs, e _ _ h1, h2.ex e⟩
theorem askD_len {F : Wd} {W : List Wd} (h : W.length ≤ 3) : (askD F W).length ≤ 9 := by
  have := flat_len (g := askRow F W) (m := 3) W.length fun k hk => by
    unfold askRow
    rw [List.length_map, List.length_range]
    omega
  unfold askD
  omega
def spAsked : Sp := fun vs H Q _ => ∃ (a : Addr) (F : Wd) (n : Nat) (W : List Wd), vs = [vS F, .ref a] ∧ Sf F n ∧ WaysT H a W ∧ (∀ u ∈ W, Way n u) ∧ W.length ≤ 3 ∧ ∀ r H', H r = none → Ex H H' → AskT H' r (askD F W) → Q (.ref r) H'
theorem Way.at_ {n : Nat} {W : List Wd} {i : Nat} (h : ∀ u ∈ W, Way n u) (hi : i < W.length) : WayAt W i (W.getD i []) ∧ Way n (W.getD i []) := by
  have e : W.getD i [] = W[i] := by rw [List.getD_eq_getElem?_getD, List.getElem?_eq_getElem hi]; rfl
  rw [e]
  have w := h _ (List.getElem_mem hi)
  exact ⟨⟨List.getElem?_eq_getElem hi, w.ne, by have := w.few; omega⟩, w⟩
section
variable {P : Program} {w : World} {K : PySem.W.Frag} {mg : Str → Option Value} {base : Heap}
theorem ok_asked {f f1 : Addr} {fd fd1 : FuncData} {k : Nat} (F0 : Fun K "_law_asked_so" "_law_asked_so" sAskedSo f fd) (ml : mg "len" = none) (mr : mg "range" = none) (dL : Def P w K mg base (k + 2) "links" ["surface", "ways", "i", "j"] spLinks f1 fd1) :
    FnOk P w K mg base CX0 (k + 3) f fd ["_law_surface", "_law_ways"] spAsked := by
  refine F0.ok scAskedSo (fun vs H Q E h => ?_) (fun cdv A outer s H vs Q E hr h => ?_)
  · obtain ⟨a, F, n, W, rfl, _⟩ := h
    rfl
  · obtain ⟨a, F, n, W, rfl, sf, hW, mW, lW, z⟩ := h
    refine ⟨_, pss_cons (ps_set (i := 2) scAskedSo.nd rfl (.inl rfl) (pe_lst pa_nil))
      (pss_cons (ps_for PassesOwn.never rfl (pi_range1 rfl mr (pa_cons (pe_callB call_len_seq (by rfl) ml PySem.boot_len (pa_cons (pv 1) pa_nil)) pa_nil)) (pg_name (i := 3) scAskedSo.nd rfl (Or.inr rfl))
        (pss_one (ps_expr (pe_bm PySem.F.plainAttrs_list PySem.F.slot_list_extend PySem.F.type_list_extend mt_extend (pv 2) (pa_cons (pe_lc (own := [("_law_j", 4)]) (g := gName 4) rfl scAskedSo.nd (pi_range2 (by rfl) mr (pa_cons (pv 3) (pa_cons (pe_callB call_len_seq (by rfl) ml PySem.boot_len (pa_cons (pv 1) pa_nil)) pa_nil))) (blkOk_by (N := ["_law_surface", "_law_ways", "_law_found", "_law_i", "_law_j"]) (sc := defScope sAskedSo) (by decide +kernel))
          (fun _ _ _ _ _ => pg_name (i := 4) scAskedSo.nd rfl (Or.inl rfl)) (fun _ _ _ _ _ => pts_nil) (fun _ _ _ _ _ => pe_def dL hr (pa_cons (pv 0) (pa_cons (pv 1) (pa_cons (pv 3) (pa_cons (pv 4) pa_nil)))))) pa_nil)))))
      (pss_one (ps_ret (pv 2)))), ?_⟩
    refine q_asgL (el_lst ea_nil (by show 0 ≤ 100000; decide)) fun g H1 ng e1 hg => ?_
    have lenW : ∀ (σ : L2.St) (G : Hp), Ex H G → σ[1]? = some (some (.ref a)) → Ev (tCB (fun vs H Q => ∃ p ys, vs = [.ref p] ∧ (SqL K H p ys ∨ SqT K H p ys) ∧ Q (.int (ys.length : Nat)) H) (tCons (tVar 1) tNil)) σ G (.int ((W.length : Nat) : Int)) := fun σ G e hs => by
      have := ev_lenT (K := K) (ev_var hs) ((hW.ex e) : _)
      rw [List.length_map] at this
      exact this
    refine q_forR1 (n := ((W.length : Nat) : Int)) (ea_cons (lenW _ _ e1 rfl) ea_nil) (by omega)
      (fun i σ' G => ∃ y3 y4 acc, σ' = [some (vS F), some (.ref a), some (.ref g), y3, y4] ∧ Ex H G ∧ G g = some (.lst acc) ∧ V.ref g ∉ acc ∧ LsT G acc ((List.range i).flatMap (askRow F W)))
      (fun G e => ⟨none, none, [], rfl, e1.trans e, e _ _ hg, (fun h => by cases h), .nil⟩) (fun i σ' G hi hP => ?_) fun σ' G hP => ?_
    · obtain ⟨y3, y4, acc, rfl, eG, hacc, nacc, lacc⟩ := hP
      have hi' : i < W.length := by omega
      refine ⟨.ref g, rfl, .inl ⟨rfl, acc, sq_of hacc⟩, ?_⟩
      show tLc _ _ _ _ _ _ _ _
      show iRng2 _ _ _ _
      refine (ea_cons (ev_var (i := 3) rfl) (ea_cons (lenW [some (vS F), some (.ref a), some (.ref g), some (.int (i : Int)), y4] _ eG rfl) ea_nil) : EvA _ [some (vS F), some (.ref a), some (.ref g), some (.int (i : Int)), y4] _ [.int (i : Int), .int ((W.length : Nat) : Int)]) G (Ex.refl _) _ fun G1 f1 => ?_
      refine ⟨(i : Int), ((W.length : Nat) : Int), rfl, ⟨by omega, by omega, by omega, by omega⟩, fun Dl nD => ?_⟩
      have nDH : H Dl = none := fresh_back (eG.trans f1) nD
      have hacc1 := f1 _ _ hacc
      have nDg : Dl ≠ g := fun e => by
        rw [e, hacc1] at nD
        cases nD
      have lacc1 := lacc.ex f1
      have fD : Ex G1 (upd G1 Dl (.lst [])) := Ex.new nD
      refine lc_range (lo := (i : Int)) (n := (((W.length : Nat) : Int) - (i : Int)).toNat)
        (fun m G => Ex H G ∧ G g = some (.lst acc) ∧ LsT G acc ((List.range i).flatMap (askRow F W)) ∧ ∃ vs, G Dl = some (.lst vs) ∧ V.ref Dl ∉ vs ∧ V.ref g ∉ vs ∧ LsT G vs ((List.range m).map fun m => sortD (linksD F (W.getD i []) (W.getD (i + m) []) i (i + m))))
        ⟨(eG.trans f1).trans fD, fD _ _ hacc1, lacc1.ex fD, [], upd_same, (fun h => by cases h), (fun h => by cases h), .nil⟩ (fun m G hm hP => ?_) fun G hP => ?_
      · obtain ⟨e, q1, q2, vs, q3, q4, q5, q6⟩ := hP
        refine ⟨rfl, ?_⟩
        have hm' : i + m < W.length := by omega
        obtain ⟨wi, wwi⟩ := Way.at_ mW hi'
        obtain ⟨wj, wwj⟩ := Way.at_ mW hm'
        refine ⟨vS F, rfl, .ref a, rfl, .int (i : Int), rfl, .int ((i : Int) + (m : Int)), rfl, ?_⟩
        refine ⟨a, F, n, W, i, i + m, _, _, by rw [Int.natCast_add]; rfl, sf, hW.ex e, wi, wj, fun d hd => (sf.mem d).mpr (wwi.let_ d hd), fun d hd => (sf.mem d).mpr (wwj.let_ d hd), fun r G2 nr e2 hz => ?_⟩
        obtain ⟨zs, hz, tz⟩ := hz
        have rD : r ≠ Dl := fun e => by
          rw [e, q3] at nr
          cases nr
        have rg : r ≠ g := fun e => by
          rw [e, q1] at nr
          cases nr
        have q3' := e2 _ _ q3
        refine ⟨vs, q3', sz_lt (by have := q6.length; rw [List.length_map, List.length_range] at this; omega), ?_⟩
        refine ⟨Ex.mut (e.trans e2) nDH, by rw [updO (Ne.symm nDg)]; exact e2 _ _ q1, (q2.ex e2).upd q3' (lacc1.not nD), _, upd_same, ?_, ?_, ?_⟩
        · intro h
          rcases List.mem_append.mp h with h | h
          · exact q4 h
          · rw [List.mem_singleton] at h
            exact rD (V.ref.inj h).symm
        · intro h
          rcases List.mem_append.mp h with h | h
          · exact q5 h
          · rw [List.mem_singleton] at h
            exact rg (V.ref.inj h).symm
        · rw [List.range_succ, List.map_append]
          exact ((q6.ex e2).upd q3' q4).append (.cons (by rw [updO rD]; exact hz) (tz.upd q3') .nil)
      · obtain ⟨e, q1, q2, vs, q3, q4, q5, q6⟩ := hP
        have lv := q6.length
        rw [List.length_map, List.length_range] at lv
        have la := q2.length
        have lb := flat_len (g := askRow F W) (m := 3) i fun k _ => by
          unfold askRow
          rw [List.length_map, List.length_range]
          omega
        refine ⟨g, Dl, acc, vs, rfl, rfl, q1, q3, sz_of (by omega), ?_⟩
        refine ⟨some (.int (i : Int)), y4, acc ++ vs, rfl, Ex.mut e ng, upd_same, ?_, ?_⟩
        · intro h
          rcases List.mem_append.mp h with h | h
          · exact nacc h
          · exact q5 h
        · rw [flat_snoc]
          have en : (((W.length : Nat) : Int) - (i : Int)).toNat = W.length - i := by omega
          rw [en] at q6
          exact (q2.upd q1 nacc).append (q6.upd q1 q5)
    · obtain ⟨y3, y4, acc, rfl, eG, hacc, nacc, lacc⟩ := hP
      rw [Int.toNat_natCast] at lacc
      exact s_ret (ev_var rfl) fun G2 f2 => z g G2 ng (eG.trans f2) ⟨acc, f2 _ _ hacc, lacc.ex f2⟩
end
end RW
set_option Elab.async false
set_option linter.all false
set_option maxRecDepth 100000
set_option maxHeartbeats 4000000
namespace RW
open PySem PySem.Spec PyProof.Rows L2 SX Evl

/-! ### data that is small enough to be shown -/
structure Gd (m w : Nat) (d : PyData) : Prop where
  sh : d.showable = true
  ls : d.leavesShort 13 = true
  nd : d.hasDict = false
  dp : d.depth ≤ m
  wt : d.weight ≤ w
structure GdA (m w : Nat) (ds : List PyData) : Prop where
  sh : PyData.showableAll ds = true
  ls : PyData.leavesShortAll 13 ds = true
  nd : PyData.hasDictAll ds = false
  dp : PyData.depthAll ds ≤ m
  wt : PyData.weightAll ds ≤ (w + 1) * ds.length
theorem gd_all {m w : Nat} : ∀ {ds : List PyData}, (∀ d ∈ ds, Gd m w d) → GdA m w ds
  | [], _ => ⟨rfl, rfl, rfl, Nat.zero_le _, Nat.zero_le _⟩
  | d :: ds, h => by
    have a := h d List.mem_cons_self
    have b := gd_all (ds := ds) fun x hx => h x (List.mem_cons_of_mem _ hx)
    refine ⟨?_, ?_, ?_, ?_, ?_⟩
    · rw [PyData.showableAll, a.sh, b.sh]
      rfl
    · rw [PyData.leavesShortAll, a.ls, b.ls]
      rfl
    · rw [PyData.hasDictAll, a.nd, b.nd]
      rfl
    · rw [PyData.depthAll]
      exact Nat.max_le.mpr ⟨a.dp, b.dp⟩
    · rw [PyData.weightAll, List.length_cons, Nat.mul_succ]
      have := a.wt
      have := b.wt
      omega
theorem gd_list {m w : Nat} {ds : List PyData} (h : ∀ d ∈ ds, Gd m w d) {w' : Nat} (hw : (w + 1) * ds.length ≤ w') : Gd (m + 1) w' (.list ds) := by
  have b := gd_all h
  refine ⟨?_, ?_, ?_, ?_, ?_⟩
  · rw [PyData.showable]
    exact b.sh
  · rw [PyData.leavesShort]
    exact b.ls
  · rw [PyData.hasDict]
    exact b.nd
  · rw [PyData.depth]
    have := b.dp
    omega
  · rw [PyData.weight]
    exact Nat.le_trans b.wt hw
theorem gd_tup {m w : Nat} {ds : List PyData} (h : ∀ d ∈ ds, Gd m w d) {w' : Nat} (hw : (w + 1) * ds.length ≤ w') : Gd (m + 1) w' (.tuple ds) := by
  have b := gd_all h
  refine ⟨?_, ?_, ?_, ?_, ?_⟩
  · rw [PyData.showable]
    exact b.sh
  · rw [PyData.leavesShort]
    exact b.ls
  · rw [PyData.hasDict]
    exact b.nd
  · rw [PyData.depth]
    have := b.dp
    omega
  · rw [PyData.weight]
    exact Nat.le_trans b.wt hw
theorem gd_int0 : ∀ n, n < 17 → PyData.showable (.int ((n : Nat) : Int)) = true ∧ PyData.weight (.int ((n : Nat) : Int)) ≤ 7 := by decide +kernel
theorem gd_int {n m : Nat} (h : n < 17) : Gd m 7 (.int (n : Int)) := by
  refine ⟨(gd_int0 n h).1, ?_, rfl, Nat.zero_le _, (gd_int0 n h).2⟩
  rw [PyData.leavesShort]
  exact decide_eq_true (PyData.shown_int_le (by omega))
theorem gd_str {s : String} {m : Nat} (h : s = "beside" ∨ s = "along" ∨ s = "against") : Gd m 7 (.str s) := by
  rcases h with rfl | rfl | rfl
  · exact ⟨rfl, by decide +kernel, rfl, Nat.zero_le _, by decide +kernel⟩
  · exact ⟨rfl, by decide +kernel, rfl, Nat.zero_le _, by decide +kernel⟩
  · exact ⟨rfl, by decide +kernel, rfl, Nat.zero_le _, by decide +kernel⟩
theorem Gd.mono {m w m' w' : Nat} {d : PyData} (h : Gd m w d) (hm : m ≤ m') (hw : w ≤ w') : Gd m' w' d := ⟨h.sh, h.ls, h.nd, Nat.le_trans h.dp hm, Nat.le_trans h.wt hw⟩
theorem gd_sD {i p : Nat} (hi : i < 17) (hp : p < 17) : Gd 1 16 (sD i p) := gd_tup (m := 0) (w := 7) (fun d hd => by
  simp only [List.mem_cons, List.not_mem_nil, or_false] at hd
  rcases hd with rfl | rfl
  · exact gd_int hi
  · exact gd_int hp) (by show 8 * 2 ≤ 16; decide)
theorem gd_enc {i p j q : Nat} {l : Lk} (hi : i < 17) (hp : p < 17) (hj : j < 17) (hq : q < 17) (hl : l.few 16) : Gd 2 68 (l.enc i p j q) := by
  cases l with
  | bes =>
    refine gd_tup (m := 1) (w := 16) (fun d hd => ?_) (by show 17 * 3 ≤ 68; decide)
    simp only [List.mem_cons, List.not_mem_nil, or_false] at hd
    rcases hd with rfl | rfl | rfl
    · exact (gd_str (.inl rfl)).mono (Nat.le_refl 1) (by decide)
    · exact gd_sD hi hp
    · exact gd_sD hj hq
  | alo t =>
    have ht : t ≤ 16 := hl
    refine gd_tup (m := 1) (w := 16) (fun d hd => ?_) (by show 17 * 4 ≤ 68; decide)
    simp only [List.mem_cons, List.not_mem_nil, or_false] at hd
    rcases hd with rfl | rfl | rfl | rfl
    · exact (gd_str (.inr (.inl rfl))).mono (Nat.le_refl 1) (by decide)
    · exact gd_sD hi hp
    · exact gd_sD hj hq
    · exact (gd_int (by omega)).mono (Nat.le_refl 1) (by decide)
  | aga t =>
    have ht : t ≤ 16 := hl
    refine gd_tup (m := 1) (w := 16) (fun d hd => ?_) (by show 17 * 4 ≤ 68; decide)
    simp only [List.mem_cons, List.not_mem_nil, or_false] at hd
    rcases hd with rfl | rfl | rfl | rfl
    · exact (gd_str (.inr (.inr rfl))).mono (Nat.le_refl 1) (by decide)
    · exact gd_sD hi hp
    · exact gd_sD hj hq
    · exact (gd_int (by omega)).mono (Nat.le_refl 1) (by decide)
theorem gd_links {F u v : Wd} {i j : Nat} (hi : i < 17) (hj : j < 17) (hu : u.length ≤ 8) (hv : v.length ≤ 8) {d : PyData} (h : d ∈ linksD F u v i j) : Gd 2 68 d := by
  obtain ⟨p, hp, h2⟩ := List.mem_flatMap.mp h
  obtain ⟨q, hq, h3⟩ := List.mem_flatMap.mp h2
  have hp := List.mem_range.mp hp
  have hq := List.mem_range.mp hq
  obtain ⟨l, hl, e⟩ := List.mem_map.mp h3
  subst e
  have hl2 := (List.mem_filter.mp hl).1
  refine gd_enc hi (by omega) hj (by omega) ?_
  simp only [List.mem_cons, List.not_mem_nil, or_false] at hl2
  rcases hl2 with rfl | rfl | rfl
  · trivial
  · have := runA_few u v p q
    show runA u v p q ≤ 16
    omega
  · have := runG_few u v p q
    show runG u v p q ≤ 16
    omega
theorem links_len {F u v : Wd} {i j : Nat} (hu : u.length ≤ 8) (hv : v.length ≤ 8) : (linksD F u v i j).length ≤ 192 := by
  have h := flat_len (g := fun p => rowD F u v i j p) (m := 24) u.length fun k _ => by
    have h := flat_len (g := fun q => lkD F u v i k j q) (m := 3) v.length fun k _ => lkD_len F u v i _ j k
    unfold rowD
    omega
  unfold linksD
  omega
theorem gd_ask {F : Wd} {n : Nat} {W : List Wd} (mW : ∀ u ∈ W, Way n u) (lW : W.length ≤ 3) : Gd 4 (13249 * 9) (.list ((askD F W).map PyData.list)) := by
  refine gd_list (m := 3) (w := 13248) (fun d hd => ?_) (by rw [List.length_map]; have := askD_len (F := F) lW; exact Nat.mul_le_mul_left _ this)
  obtain ⟨ds, hds, e⟩ := List.mem_map.mp hd
  subst e
  obtain ⟨i, hi, h2⟩ := List.mem_flatMap.mp hds
  have hi := List.mem_range.mp hi
  obtain ⟨m, hm, e⟩ := List.mem_map.mp h2
  have hm := List.mem_range.mp hm
  subst e
  have w1 := (Way.at_ mW hi).2
  have w2 := (Way.at_ mW (show i + m < W.length by omega)).2
  refine gd_list (m := 2) (w := 68) (fun d hd => ?_) ?_
  · exact gd_links (by omega) (by omega) w1.few w2.few ((List.mergeSort_perm _ _).mem_iff.mp hd)
  · unfold sortD
    rw [List.length_mergeSort]
    have := links_len (F := F) (i := i) (j := i + m) w1.few w2.few
    omega
theorem Gd.fit {m w : Nat} {d : PyData} (h : Gd m w d) (hw : w ≤ 2 ^ 20) : d.shown.length ≤ sizeLine := PyData.shown_fits (B := 13) (by decide) (by decide) h.ls (Nat.le_trans h.wt hw)
end RW
set_option Elab.async false
set_option linter.all false
set_option maxRecDepth 100000
set_option maxHeartbeats 4000000
namespace RW
open PySem PySem.Spec PyProof.Rows L2 SX Evl

/-! ### surfaces and ways told otherwise -/
theorem len_sub {B : Wd} : ∀ {A : Wd}, A.Nodup → (∀ c ∈ A, c ∈ B) → A.length ≤ B.length := by
  intro A
  induction A generalizing B with
  | nil => intro _ _; exact Nat.zero_le _
  | cons a A ih =>
    intro nd sub
    have nd2 := List.nodup_cons.mp nd
    have ha := sub a List.mem_cons_self
    have := ih (B := B.erase a) nd2.2 fun c hc => (List.mem_erase_of_ne (fun e : c = a => nd2.1 (by rw [← e]; exact hc))).mpr (sub c (List.mem_cons_of_mem _ hc))
    rw [List.length_erase_of_mem ha] at this
    have : 0 < B.length := List.length_pos_of_mem ha
    rw [List.length_cons]
    omega
theorem sub_back {A B : Wd} (nd : A.Nodup) (sub : ∀ c ∈ A, c ∈ B) (hl : B.length ≤ A.length) {b : Nat} (hb : b ∈ B) : b ∈ A := by
  by_cases q : b ∈ A
  · exact q
  · have := len_sub (B := B.erase b) nd fun c hc => (List.mem_erase_of_ne (fun e : c = b => q (by rw [← e]; exact hc))).mpr (sub c hc)
    rw [List.length_erase_of_mem hb] at this
    have : 0 < B.length := List.length_pos_of_mem hb
    omega
theorem Sf.rot {F : Wd} {n a : Nat} (h : Sf F n) (ha : a ≤ F.length) : Sf (rot F a) n := ⟨rot_nd a h.nd, fun c => rot_mem.trans (h.mem c), h.one, h.six, (rot_len ha).trans h.len⟩
theorem Sf.rev {F : Wd} {n : Nat} (h : Sf F n) : Sf F.reverse n := ⟨(List.reverse_perm F).nodup_iff.mpr h.nd, fun c => List.mem_reverse.trans (h.mem c), h.one, h.six, by rw [List.length_reverse]; exact h.len⟩
theorem Sf.inj {F : Wd} {n : Nat} {r : Nat → Nat} (h : Sf F n) (R : Ren n r) : ∀ c ∈ F, ∀ d ∈ F, r c = r d → c = d := fun c hc d hd e => R.inj c ((h.mem c).mp hc) d ((h.mem d).mp hd) e
theorem Sf.ren {F : Wd} {n : Nat} {r : Nat → Nat} (h : Sf F n) (R : Ren n r) : Sf (F.map r) n := by
  have nd := map_nd (h.inj R) h.nd
  have sub : ∀ c ∈ F.map r, c ∈ F := fun c hc => by
    obtain ⟨d, hd, e⟩ := List.mem_map.mp hc
    rw [← e]
    exact (h.mem _).mpr (R.is_ d ((h.mem d).mp hd))
  refine ⟨nd, fun c => ⟨fun hc => (h.mem c).mp (sub c hc), fun hc => sub_back nd sub (by rw [List.length_map]; exact Nat.le_refl _) ((h.mem c).mpr hc)⟩, h.one, h.six, by rw [List.length_map]; exact h.len⟩
theorem atw_map {u : Wd} {r : Nat → Nat} (h : u ≠ []) (k : Int) : atw (u.map r) k = r (atw u k) := by
  have a := atw_at (k := k) h
  have b := atw_at (u := u.map r) (k := k) (by simpa using h)
  rw [List.length_map, List.getElem?_map, a] at b
  exact (Option.some.inj b).symm
theorem Way.ren {n : Nat} {u : Wd} {r : Nat → Nat} (h : Way n u) (R : Ren n r) (hn : n ≤ 6) : Way n (u.map r) := by
  refine ⟨by simpa using h.ne, by rw [List.length_map]; exact h.few, fun c hc => ?_, fun k => ?_⟩
  · obtain ⟨d, hd, e⟩ := List.mem_map.mp hc
    rw [← e]
    exact R.is_ d (h.let_ d hd)
  · rw [atw_map h.ne, atw_map h.ne]
    have l1 := h.let_ _ (atw_get h.ne k).2
    have l2 := h.let_ _ (atw_get h.ne (k + 1)).2
    rw [← R.bk_ _ l1]
    exact fun e => h.rnd k (R.inj _ l2 _ (bk_isLK hn l1) e)
/-- the plain laws -/
structure Laws : Prop where
  rot : ∀ F n W a, Sf F n → (∀ u ∈ W, Way n u) → a ≤ F.length → askD (rot F a) W = askD F W
  rev : ∀ F n W, Sf F n → (∀ u ∈ W, Way n u) → askD F.reverse W = askD F W
  ren : ∀ F n W r, Sf F n → (∀ u ∈ W, Way n u) → Ren n r → askD (F.map r) (W.map fun u => u.map r) = askD F W
  brev : ∀ F n u v, Sf F n → Way n u → Way n v → balI F.reverse n u v = 0 - balI F n u v
  bren : ∀ F n u v r, Sf F n → Way n u → Way n v → Ren n r → balI (F.map r) n (u.map r) (v.map r) = balI F n u v
  trn : ∀ F n u v W, Sf F n → (∀ x ∈ u :: W, Way n x) → (∃ a, a ≤ u.length ∧ (v = RW.rot u a ∨ v = RW.rot (bw u) a)) → (askD F (v :: W)).map List.length = (askD F (u :: W)).map List.length
  bak : ∀ F n W, Sf F n → (∀ u ∈ W, Way n u) → W.length ≤ 3 → ((askD F W.reverse).map List.length).Perm ((askD F W).map List.length)

/-! ### what is asked, as it is evaluated -/
def EvK (te : TE) (σ : L2.St) (H : Hp) (dss : List (List PyData)) : Prop := ∀ H1, Ex H H1 → ∀ Q : VK, (∀ r H2, H1 r = none → Ex H1 H2 → AskT H2 r dss → Q (.ref r) H2) → te σ H1 Q
def EvS (te : TE) (σ : L2.St) (H : Hp) (ns : List Int) : Prop := ∀ H1, Ex H H1 → ∀ Q : VK, (∀ (ns' : List Int) (p : Addr) (H2 : Hp), ns'.Perm ns → ns'.Pairwise (· ≤ ·) → H1 p = none → Ex H1 H2 → H2 p = some (.lst (ns'.map V.int)) → Q (.ref p) H2) → te σ H1 Q
def lensI (dss : List (List PyData)) : List Int := (dss.map List.length).map fun (n : Nat) => (n : Int)
def rLenK (K : PySem.W.Frag) : List V → Hp → VK → Prop := fun xs H Q => ∃ p ys, xs = [.ref p] ∧ (SqL K H p ys ∨ SqT K H p ys) ∧ Q (.int (ys.length : Nat)) H
theorem lenK (K : PySem.W.Frag) {X : Cx} (h : X.K = K) : CallR X (.builtin "len") (rLenK K) := by
  rw [← h]
  exact call_len_seq
def dInts (ns : List Int) : PyData := .list (ns.map PyData.int)
theorem dp_ints {K : PySem.W.Frag} {H : Hp} : ∀ ns : List Int, DpAll K H (ns.map V.int) (ns.map PyData.int)
  | [] => .nil
  | n :: ns => .cons (.int n) (dp_ints ns)
theorem eqv_ints : ∀ ns : List Int, PyData.eqvAll (ns.map PyData.int) (ns.map PyData.int) = true
  | [] => rfl
  | n :: ns => by
    rw [List.map_cons, PyData.eqvAll, eqv_ints ns, PyData.eqv, beq_self_eq_true]
    rfl
theorem lay_ints : ∀ ns : List Int, PyData.canLayAll0 (ns.map PyData.int) = true ∧ PyData.depthAll (ns.map PyData.int) = 0
  | [] => ⟨rfl, rfl⟩
  | n :: ns => by
    obtain ⟨h1, h2⟩ := lay_ints ns
    refine ⟨?_, ?_⟩
    · rw [List.map_cons, PyData.canLayAll0, h1]
      rfl
    · rw [List.map_cons, PyData.depthAll, h2]
      rfl
theorem shp_ints (ns : List Int) : SeqAt.shaped (dInts ns) = true := by
  obtain ⟨h1, h2⟩ := lay_ints ns
  have e1 : (dInts ns).canLay0 = true := by
    unfold dInts
    rw [PyData.canLay0]
    exact h1
  have e2 : (dInts ns).depth = 1 := by
    unfold dInts
    rw [PyData.depth, h2]
  unfold SeqAt.shaped
  rw [e1, e2]
  rfl
theorem eqv_dInts (ns : List Int) : PyData.eqv (dInts ns) (dInts ns) = true := by
  unfold dInts
  rw [PyData.eqv]
  exact eqv_ints ns
section
variable {K : PySem.W.Frag} {σ : L2.St} {H H' : Hp} {ta tb te : TE} {E : XK} {F : Wd} {n : Nat} {W : List Wd} {a : Addr} {dss ess : List (List PyData)} {ns ms : List Int}
theorem ek_call (h1 : Ev ta σ H (vS F)) (h2 : Ev tb σ H (.ref a)) (sf : Sf F n) (hW : WaysT H a W) (mW : ∀ u ∈ W, Way n u) (lW : W.length ≤ 3) : EvK (tCall spAsked [] E (tCons ta (tCons tb tNil))) σ H (askD F W) := fun H1 e Q q =>
  (ea_cons h1 (ea_cons h2 ea_nil)) H1 e _ fun H2 e2 => ⟨a, F, n, W, rfl, sf, (hW.ex e).ex e2, mW, lW, fun r H3 nr e3 hA => q r H3 (fresh_back e2 nr) (e2.trans e3) hA⟩
theorem ek_callU (h1 : Ev ta σ H (vS F)) (h2 : EvU tb σ H (W.map vS)) (sf : Sf F n) (mW : ∀ u ∈ W, Way n u) (lW : W.length ≤ 3) : EvK (tCall spAsked [] E (tCons ta (tCons tb tNil))) σ H (askD F W) := fun H1 e Q q =>
  h1 H1 e _ fun H2 e2 => h2 H2 (e.trans e2) _ fun b H3 nb e3 h3 => ⟨b, F, n, W, rfl, sf, h3, mW, lW, fun r H4 nr e4 hA => q r H4 (fresh_back (e2.trans e3) nr) ((e2.trans e3).trans e4) hA⟩
theorem eu_rev (h : Ev ta σ H (.ref a)) (ha : H a = some (.tup (W.map vS))) : EvU (tRevT K ta) σ H (W.reverse.map vS) := fun H1 e Q q =>
  h H1 e _ fun H2 e2 => ⟨a, _, rfl, st_of (e2 _ _ (e _ _ ha)), fun p hp => q p _ (fresh_back e2 hp) (e2.trans (Ex.new hp)) (by rw [upd_same, List.map_reverse])⟩
theorem el_lens {j : Nat} {vs : List Nat} (h : EvK te σ H dss) (hl : dss.length ≤ 1000) (hw : ∀ x, wipe ((wipe σ vs).set j (some x)) vs = wipe σ vs) (hj : ∀ x, ((wipe σ vs).set j (some x))[j]? = some (some x)) :
    EvL (tLc (iList K te) (gName j) tYes (tCB (rLenK K) (tCons (tVar j) tNil)) vs) σ H ((lensI dss).map V.int) := fun H0 e Q q =>
  h H0 e _ fun r H1 nr e1 hA => by
    obtain ⟨us, hu, ls⟩ := hA
    have lu := ls.length
    have ly : ((lensI dss).map V.int).length = us.length := by
      unfold lensI
      rw [List.length_map, List.length_map, List.length_map, lu]
    exact ⟨r, rfl, ⟨us, sq_of hu⟩, fun Dl hD =>
      lc_list (xs := us) (Cm H1 ((lensI dss).map V.int) Dl) ⟨hD, Ex.new hD, by rw [upd_same]; rfl⟩ (fun i G _ p => ex_l p.2.1 (sq_of hu)) (fun i x G hi p => by
        have hi' : i < us.length := (List.getElem?_eq_some_iff.mp hi).1
        have hd : dss[i]? = some dss[i] := List.getElem?_eq_getElem (by omega)
        obtain ⟨l, xs, ex, hl, hx⟩ := ls.at hi hd
        subst ex
        refine ⟨hw _, cm_turn p (y := .int ((dss[i].length : Nat) : Int)) ?_ (by omega) fun G1 f1 Q q => ?_⟩
        · unfold lensI
          rw [List.getElem?_map, List.getElem?_map, List.getElem?_map, hd]
          rfl
        · exact ⟨_, hj _, l, xs, rfl, .inl (sq_of (f1 _ _ hl)), by rw [hx]; exact q G1 (Ex.refl _)⟩)
        fun G p => q Dl G (fresh_back e1 p.1) (e1.trans p.2.1) (by
          have h3 := p.2.2
          rw [List.take_of_length_le (by omega)] at h3
          exact h3)⟩
theorem es_sort (h : EvL te σ H (ns.map V.int)) : EvS (tCB (rSortedI K) (tCons te tNil)) σ H ns := fun H1 e Q q =>
  h H1 e _ fun p H2 np e2 h2 => ⟨p, ns, rfl, sq_of h2, fun ns' r hp hs hr => q ns' r _ hp hs (fresh_back e2 hr) (e2.trans (Ex.new hr)) upd_same⟩
theorem es_sortV (h : Ev te σ H (.ref a)) (ha : H a = some (.lst (ns.map V.int))) : EvS (tCB (rSortedI K) (tCons te tNil)) σ H ns := fun H1 e Q q =>
  h H1 e _ fun H2 e2 => ⟨a, ns, rfl, sq_of (e2 _ _ (e _ _ ha)), fun ns' r hp hs hr => q ns' r _ hp hs (fresh_back e2 hr) (e2.trans (Ex.new hr)) upd_same⟩
theorem ev_sorted (h1 : EvS ta σ H ns) (h2 : EvS tb σ H ms) (hp : ns.Perm ms) : Ev (tOp (rEqD K) ta tb) σ H (.bl true) := fun H1 e Q q =>
  h1 H1 e _ fun ns' p H2 p1 s1 np e2 g2 => h2 H2 (e.trans e2) _ fun ms' r H3 p2 s2 nr e3 g3 => by
    have eq : ns' = ms' := List.Perm.eq_of_pairwise (fun x y _ _ h1 h2 => Int.le_antisymm h1 h2) s1 s2 (p1.trans (hp.trans p2.symm))
    subst eq
    refine ⟨dInts ns', dInts ns', .lst (sq_of (e3 _ _ g2)) (dp_ints ns'), .lst (sq_of g3) (dp_ints ns'), shp_ints _, shp_ints _, ?_⟩
    rw [eqv_dInts]
    exact q H3 (e2.trans e3)
theorem et_neI (h1 : EvL ta σ H (ns.map V.int)) (h2 : Ev tb σ H (.ref a)) (ha : H a = some (.lst (ns.map V.int))) : EvT (tTest (tOp (rNeD K) ta tb)) σ H false := et_test (ev_opL1 h1 (fun H1 e => h2.mono e) fun p H1 hp e => fun H2 e2 Q q => by
  refine ⟨dInts ns, dInts ns, .lst (sq_of (e2 _ _ hp)) (dp_ints ns), .lst (sq_of (e2 _ _ (e _ _ ha))) (dp_ints ns), shp_ints _, shp_ints _, ?_⟩
  rw [eqv_dInts]
  exact q H2 (Ex.refl _))
theorem eu_tl {xs : List V} (h : Ev ta σ H (.ref a)) (ha : H a = some (.tup xs)) (hx : 0 < xs.length) : EvU (tSl (rSlT K) ta (tPart (tC (.int 1))) tNoPart) σ H (xs.drop 1) := fun H1 e Q q => by
  have e1 : HT.sIx xs.length 0 (some 1) = 1 := by
    show (if (1 : Int) < 0 then ((1 : Int) + (xs.length : Int)).toNat else min (1 : Int).toNat xs.length) = 1
    rw [if_neg (by decide)]
    show min 1 xs.length = 1
    omega
  refine h H1 e _ fun H2 e2 => ⟨1, rfl, a, xs, rfl, st_of (e2 _ _ (e _ _ ha)), fun z => by rw [e1] at z; exact absurd z.1 (by decide), fun p hp => q p _ (fresh_back e2 hp) (e2.trans (Ex.new hp)) ?_⟩
  rw [upd_same]
  unfold cutV
  rw [e1, List.take_of_length_le (by rw [List.length_drop]; exact Nat.le_refl _)]
theorem eu_cat {xs ys : List V} (h1 : EvU ta σ H xs) (h2 : EvU tb σ H ys) (hx : xs ≠ []) (hz : xs.length + ys.length ≤ 100000) : EvU (tOp (rCatT K) ta tb) σ H (xs ++ ys) := fun H1 e Q q =>
  h1 H1 e _ fun p H2 np e2 g2 => h2 H2 (e.trans e2) _ fun r H3 nr e3 g3 => ⟨p, r, xs, ys, rfl, rfl, st_of (e3 _ _ g2), st_of g3, hx, sz_of hz, fun hy => q p H3 np (e2.trans e3) (by rw [hy, List.append_nil]; exact e3 _ _ g2), fun _ c hc => q c _ (fresh_back (e2.trans e3) hc) ((e2.trans e3).trans (Ex.new hc)) upd_same⟩
end
end RW
set_option Elab.async false
set_option linter.all false
set_option maxRecDepth 100000
set_option maxHeartbeats 4000000
namespace RW
open PySem PySem.Spec PyProof.Rows L2 SX Evl

theorem Tp.neT {H : Hp} {t ca a : Addr} {xs : List V} (T : Tp H t ca) (h : H a = some (.tup xs)) : a ≠ t := fun e => by
  obtain ⟨x, y, z, h3⟩ := T.at_
  rw [e, h3] at h
  cases h
theorem WaysT.dr {H H' : Hp} {t ca a : Addr} {W : List Wd} (h : WaysT H a W) (T : Tp H t ca) (d : Dr t ca H H') : WaysT H' a W := d.ex a _ (T.neT h) h
/-! ### _law_turned_right -/
def spTurned : Sp := fun vs H Q _ => ∃ (t ca a : Addr) (F : Wd) (n : Nat) (W : List Wd), vs = [.ref t, vS F, .ref a] ∧ Tp H t ca ∧ Sf F n ∧ WaysT H a W ∧ (∀ u ∈ W, Way n u) ∧ 1 ≤ W.length ∧ W.length ≤ 3 ∧ ∀ H', Dr t ca H H' → Q (.bl true) H'
section
variable {P : Program} {w : World} {K : PySem.W.Frag} {mg : Str → Option Value} {base : Heap}
theorem ok_turned (M : Laws) {f f1 f2 f3 : Addr} {fd fd1 fd2 fd3 : FuncData} {k : Nat} (F0 : Fun K "_law_turned_right" "_law_turned_right" sTurnedRight f fd) (ml : mg "len" = none) (ms : mg "sorted" = none)
    (dD : Def P w K mg base (k + 2) "_law_draw" ["_law_tape_here", "_law_many"] spDraw f1 fd1) (dB : Def P w K mg base (k + 2) "_law_back" ["_law_word"] spBack f2 fd2) (dA : Def P w K mg base (k + 2) "_law_asked_so" ["_law_surface", "_law_ways"] spAsked f3 fd3) :
    FnOk P w K mg base CX0 (k + 3) f fd ["_law_tape_here", "_law_surface", "_law_ways"] spTurned := by
  refine F0.ok scTurnedRight (fun vs H Q E h => ?_) (fun cdv A outer s H vs Q E hr h => ?_)
  · obtain ⟨t, ca, a, F, n, W, rfl, _⟩ := h
    rfl
  · obtain ⟨t, ca, a, F, n, W, rfl, T, sf, hW, mW, W1, W3, z⟩ := h
    refine ⟨_, pss_cons (ps_set (i := 3) scTurnedRight.nd rfl (.inl rfl) (pe_def dD hr (pa_cons (pv 0) (pa_cons (pe_callB call_len (by rfl) ml PySem.boot_len (pa_cons (pe_ix ix_tup (pv 2) pe_int (fun _ _ => rfl)) pa_nil)) pa_nil))))
      (pss_cons (ps_set (i := 4) scTurnedRight.nd rfl (.inl rfl) (pe_ix ix_list (pe_lst (pa_cons (pe_ix ix_tup (pv 2) pe_int (fun _ _ => rfl)) (pa_cons (pe_def dB hr (pa_cons (pe_ix ix_tup (pv 2) pe_int (fun _ _ => rfl)) pa_nil)) pa_nil))) (pe_def dD hr (pa_cons (pv 0) (pa_cons pe_int pa_nil))) (fun _ _ => rfl)))
      (pss_cons (ps_set (i := 5) scTurnedRight.nd rfl (.inl rfl) (pe_op op_catT (pe_tup (pa_cons (pe_op op_add_str (pe_slice sl_str (pv 4) (po_some (pv 3)) po_none) (pe_slice sl_str (pv 4) po_none (po_some (pv 3)))) pa_nil)) (pe_slice sl_tup (pv 2) (po_some pe_int) po_none)))
      (pss_cons (ps_setLc (i := 6) (own := [("_law_some", 7)]) (g := gName 7) rfl scTurnedRight.nd rfl rfl (by rfl) (pi_list (pe_def dA hr (pa_cons (pv 1) (pa_cons (pv 2) pa_nil)))) (blkOk_by (N := ["_law_tape_here", "_law_surface", "_law_ways", "_law_at", "_law_word", "_law_turned", "_law_due", "_law_some"]) (sc := defScope sTurnedRight) (by decide +kernel))
        (fun _ _ _ _ _ => pg_name (i := 7) scTurnedRight.nd rfl (Or.inl rfl)) (fun _ _ _ _ _ => pts_nil) (fun _ _ _ _ _ => pe_callB (lenK K rfl) (by rfl) ml PySem.boot_len (pa_cons (pv 7) pa_nil)))
      (pss_cons (ps_if (pt_cmpR (op_neD hr.units) (pe_lc (own := [("_law_some", 7)]) (g := gName 7) rfl scTurnedRight.nd (pi_list (pe_def dA hr (pa_cons (pv 1) (pa_cons (pv 5) pa_nil)))) (blkOk_by (N := ["_law_tape_here", "_law_surface", "_law_ways", "_law_at", "_law_word", "_law_turned", "_law_due", "_law_some"]) (sc := defScope sTurnedRight) (by decide +kernel))
        (fun _ _ _ _ _ => pg_name (i := 7) scTurnedRight.nd rfl (Or.inl rfl)) (fun _ _ _ _ _ => pts_nil) (fun _ _ _ _ _ => pe_callB (lenK K rfl) (by rfl) ml PySem.boot_len (pa_cons (pv 7) pa_nil))) (pv 6) (nomark _)) (pss_one (ps_ret pe_bl)) pss_nil)
      (pss_one (ps_ret (pe_cmpR (op_eqD hr.units) (pe_callB cr_sortedI (by rfl) ms boot_sorted (pa_cons (pe_lc (own := [("_law_some", 7)]) (g := gName 7) rfl scTurnedRight.nd (pi_list (pe_def dA hr (pa_cons (pv 1) (pa_cons (pe_revT (pv 2)) pa_nil)))) (blkOk_by (N := ["_law_tape_here", "_law_surface", "_law_ways", "_law_at", "_law_word", "_law_turned", "_law_due", "_law_some"]) (sc := defScope sTurnedRight) (by decide +kernel))
        (fun _ _ _ _ _ => pg_name (i := 7) scTurnedRight.nd rfl (Or.inl rfl)) (fun _ _ _ _ _ => pts_nil) (fun _ _ _ _ _ => pe_callB (lenK K rfl) (by rfl) ml PySem.boot_len (pa_cons (pv 7) pa_nil))) pa_nil)) (pe_callB cr_sortedI (by rfl) ms boot_sorted (pa_cons (pv 6) pa_nil)) (nomark _)))))))), ?_⟩
    obtain ⟨u, R, rfl⟩ : ∃ u R, W = u :: R := by
      cases W with
      | nil => exact absurd W1 (by decide)
      | cons u R => exact ⟨u, R, rfl⟩
    have hu := mW u List.mem_cons_self
    have u8 := hu.few
    have up := hu.pos
    have n6 := sf.six
    refine q_do ?_
    show tCall spDraw [] E0 _ _ _ _
    refine draw_go (ca := ca) (n := ((u.length : Nat) : Int)) (ea_cons (ev_var rfl) (ea_cons (ev_lenS (ev_op (ev_var rfl) ev_c (rv_ixT (st_of hW) (atI_nat (j := 0) rfl))) (by omega)) ea_nil)) T (by omega) (by omega) fun x G1 x0 x1 d1 => ?_
    have hW1 := hW.dr T d1
    refine q_do ?_
    refine el_lst (ea_cons (ev_op (ev_var rfl) ev_c (rv_ixT (st_of hW1) (atI_nat (j := 0) rfl))) (ea_cons (ev_call (ea_cons (ev_op (ev_var rfl) ev_c (rv_ixT (st_of hW1) (atI_nat (j := 0) rfl))) ea_nil) (spBack_V (u := u) (fun c hc => isLK_mono (hu.let_ c hc) n6) (by omega))) ea_nil)) (by show 2 ≤ 100000; decide) G1 (Ex.refl _) _ fun p G2 np e2 h2 => ?_
    show tCall spDraw [] E0 _ _ _ _
    have npt : p ≠ t := d1.fresh np
    refine draw_go (ca := ca) (ea_cons (ev_var rfl) (ea_cons ev_c ea_nil)) (d1.tp.ex e2) (by decide) (by decide) fun b G3 b0 b1 d3 => ?_
    have h3 := d3.ex p _ npt h2
    have hb2 : ∃ u3, atI [vS u, vS (bw u)] b = some (vS u3) ∧ (u3 = u ∨ u3 = bw u) := by
      have : b = 0 ∨ b = 1 := by omega
      rcases this with rfl | rfl
      · exact ⟨u, atI_nat (j := 0) rfl, .inl rfl⟩
      · exact ⟨bw u, atI_nat (j := 1) rfl, .inr rfl⟩
    obtain ⟨u3, ga3, hu3⟩ := hb2
    have l3 : u3.length = u.length := by
      rcases hu3 with rfl | rfl
      · rfl
      · exact bw_len u
    refine ⟨p, [vS u, vS (bw u)], b, vS u3, rfl, rfl, sq_of h3, ga3, ?_⟩
    have ea : x = ((x.toNat : Nat) : Int) := by omega
    have dd3 := (d1.plus e2).trans d3
    have hW3 : WaysT G3 a (u :: R) := hW.dr T dd3
    have hv : (∀ v ∈ rot u3 x.toNat :: R, Way n v) := fun v hv => by
      rcases List.mem_cons.mp hv with rfl | h
      · rcases hu3 with rfl | rfl
        · exact hu.rot (by omega)
        · exact (hu.back n6).rot (by omega)
      · exact mW v (List.mem_cons_of_mem _ h)
    refine q_asgU (eu_cat (xs := [vS (rot u3 x.toNat)]) (ys := (R.map vS)) (eu_tup (ea_cons (ev_cat (u := u3.drop x.toNat) (v := u3.take x.toNat) (ev_from (ev_var rfl) (ev_is (ev_var rfl) (congrArg V.int ea)) (by omega)) (ev_to (ev_var rfl) (ev_is (ev_var rfl) (congrArg V.int ea)) (by omega)) (by rw [List.length_drop, List.length_take]; omega)) ea_nil) (by show 1 ≤ 100000; decide))
      (eu_tl (K := K) (xs := (u :: R).map vS) (ev_var rfl) hW3 (by rw [List.length_map]; exact W1)) (by simp) (by rw [List.length_map]; rw [List.length_cons] at W3; show 1 + R.length ≤ 100000; omega)) fun c G4 nc e4 h4 => ?_
    have hC : WaysT G4 c (rot u3 x.toNat :: R) := h4
    have hW4 := hW3.ex e4
    have lD : (askD F (u :: R)).length ≤ 1000 := by have := askD_len (F := F) W3; omega
    refine q_asgL (el_lens (K := K) (ek_call (ev_var rfl) (ev_var rfl) sf hW4 mW W3) lD (fun _ => rfl) (fun _ => rfl)) fun q G5 nq e5 h5 => ?_
    have hC5 := hC.ex e5
    have eq1 : lensI (askD F (rot u3 x.toNat :: R)) = lensI (askD F (u :: R)) := by
      unfold lensI
      rw [M.trn F n u (rot u3 x.toNat) R sf mW ⟨x.toNat, by omega, by rcases hu3 with rfl | rfl; exact .inl rfl; exact .inr rfl⟩]
    have el1 := el_lens (K := K) (j := 7) (vs := [7]) (dss := askD F (rot u3 x.toNat :: R)) (ek_call (E := E0) (σ := [some (.ref t), some (vS F), some (.ref a), some (.int x), some (vS u3), some (.ref c), some (.ref q), none]) (ta := tVar 1) (tb := tVar 5) (ev_var rfl) (ev_var rfl) sf hC5 hv W3) (by have := askD_len (F := F) (W := rot u3 x.toNat :: R) W3; omega) (fun _ => rfl) (fun _ => rfl)
    rw [eq1] at el1
    refine q_when (et_neI (K := K) el1 (ev_var rfl) h5) (fun h => by cases h) fun _ G6 e6 => ?_
    have hW6 := (hW4.ex e5).ex e6
    have lR : (u :: R).reverse.length ≤ 3 := by rw [List.length_reverse]; exact W3
    refine s_ret (ev_sorted (K := K) (es_sort (el_lens (K := K) (ek_callU (ev_var rfl) (eu_rev (K := K) (ev_var rfl) hW6) sf (fun v hv => mW v (List.mem_reverse.mp hv)) lR) (by have := askD_len (F := F) lR; omega) (fun _ => rfl) (fun _ => rfl))) (es_sortV (ev_var rfl) (e6 _ _ h5)) ?_) fun G7 e7 => ?_
    · unfold lensI
      exact (M.bak F n (u :: R) sf mW W3).map _
    · exact z G7 (dd3.plus (((e4.trans e5).trans e6).trans e7))
end
end RW
set_option Elab.async false
set_option linter.all false
set_option maxRecDepth 100000
set_option maxHeartbeats 4000000
namespace RW
open PySem PySem.Spec PyProof.Rows L2 SX Evl

theorem LsT.dr {H H' : Hp} {t ca : Addr} (T : Tp H t ca) (d : Dr t ca H H') : ∀ {vs : List V} {dss : List (List PyData)}, LsT H vs dss → LsT H' vs dss
  | _, _, .nil => .nil
  | _, _, .cons (l := l) (xs := xs) h tx r => by
    refine .cons (d.ex l _ (fun e => ?_) h) (TDs.mono (fun a ys q => d.ex a _ (T.neT q) q) _ _ tx) (LsT.dr T d r)
    obtain ⟨x, y, z, h3⟩ := T.at_
    obtain ⟨cs, h4, _⟩ := T.cs
    rw [e, h3] at h
    cases h
    cases tx with
    | cons td _ =>
      cases td with
      | tup h5 _ =>
        rw [h4] at h5
        cases h5
theorem AskT.dr {H H' : Hp} {t ca r : Addr} {dss : List (List PyData)} (h : AskT H r dss) (T : Tp H t ca) (hr : r ≠ t) (d : Dr t ca H H') : AskT H' r dss := by
  obtain ⟨vs, h1, h2⟩ := h
  exact ⟨vs, d.ex r _ hr h1, h2.dr T d⟩
def shw (dss : List (List PyData)) : Str := (PyData.list (dss.map PyData.list)).shown
section
variable {K : PySem.W.Frag} {σ : L2.St} {H : Hp} {te ta : TE} {m w : Nat} {dss : List (List PyData)} {r : Addr}
theorem ev_repr (h : EvK te σ H dss) (g : Gd m w (.list (dss.map PyData.list))) (hm : m ≤ 60) (hw : w ≤ 2 ^ 20) : Ev (tCB (rReprD K) (tCons te tNil)) σ H (.str (shw dss)) := fun H1 e Q q =>
  h H1 e _ fun r H2 nr e2 hA => by
    obtain ⟨vs, h1, h2⟩ := hA
    exact ⟨r, _, rfl, .lst (sq_of h1) h2.dp, g.sh, g.nd, Nat.le_trans g.dp hm, g.fit hw, q H2 e2⟩
theorem ev_reprV (h : Ev te σ H (.ref r)) (hA : AskT H r dss) (g : Gd m w (.list (dss.map PyData.list))) (hm : m ≤ 60) (hw : w ≤ 2 ^ 20) : Ev (tCB (rReprD K) (tCons te tNil)) σ H (.str (shw dss)) := fun H1 e Q q =>
  h H1 e _ fun H2 e2 => by
    obtain ⟨vs, h1, h2⟩ := (hA.ex e).ex e2
    exact ⟨r, _, rfl, .lst (sq_of h1) h2.dp, g.sh, g.nd, Nat.le_trans g.dp hm, g.fit hw, q H2 e2⟩
theorem ek_callE {E : XK} {F : Wd} {n : Nat} {W : List Wd} {a : Addr} {tb : TE} (h1 : Ev ta σ H (vS F)) (h2 : Ev tb σ H (.ref a)) (sf : Sf F n) (hW : WaysT H a W) (mW : ∀ u ∈ W, Way n u) (lW : W.length ≤ 3) (e : askD F W = dss) : EvK (tCall spAsked [] E (tCons ta (tCons tb tNil))) σ H dss := by
  rw [← e]
  exact ek_call h1 h2 sf hW mW lW
theorem ev_revS {u : Wd} (h : Ev te σ H (vS u)) (hl : u.length ≤ 1000) : Ev (tRevS te) σ H (vS u.reverse) := fun H1 e Q q =>
  h H1 e _ fun H2 e2 => ⟨S u, rfl, by rw [S_len]; exact sz_of (by omega), q H2 e2⟩
theorem et_neS {x : V} (h1 : Ev ta σ H x) (h2 : Ev te σ H x) (hs : scal x x = true) : EvT (tTest (tOp rNe ta te)) σ H false := et_is (et_test (ev_op h1 h2 (rv_ne hs))) (by rw [decide_eq_true rfl]; rfl)
end
/-! ### _law_right -/
section
variable {P : Program} {w : World} {K : PySem.W.Frag} {mg : Str → Option Value} {base : Heap}
theorem at_end {α : Type} {R : List α} {u v : α} (h : (u :: R).getLast? = some v) : atI (u :: R) (-1) = some v := at_last (by rw [List.getLast?_eq_getElem?] at h; exact h)
theorem ok_right (M : Laws) {f f1 f2 f3 f4 f5 : Addr} {fd fd1 fd2 fd3 fd4 fd5 : FuncData} {k : Nat} (F0 : Fun K "_law_right" "_law_right" sRight f fd) (ml : mg "len" = none) (mt : mg "tuple" = none) (me : mg "repr" = none)
    (dD : Def P w K mg base (k + 2) "_law_draw" ["_law_tape_here", "_law_many"] spDraw f1 fd1) (dN : Def P w K mg base (k + 2) "_law_other_names" ["_law_tape_here", "_law_many"] spOtherNames f2 fd2) (dA : Def P w K mg base (k + 2) "_law_asked_so" ["_law_surface", "_law_ways"] spAsked f3 fd3)
    (dR : Def P w K mg base (k + 2) "_law_renamed_word" ["_law_names", "_law_word"] spRenamed f4 fd4) (dB : Def P w K mg base (k + 2) "balance" ["surface", "one", "other"] spBalance f5 fd5) :
    FnG P w K mg base (k + 3) f fd ["_law_tape_here", "_law_surface", "_law_ways"] spTurned := by
  refine okG F0 scRight (fun vs H Q E h => ?_) (fun cdv A outer s H vs Q E hG hr h => ?_)
  · obtain ⟨t, ca, a, F, n, W, rfl, _⟩ := h
    rfl
  · obtain ⟨t, ca, a, F, n, W, rfl, T, sf, hW, mW, W1, W3, z⟩ := h
    refine ⟨_, pss_cons (ps_set (i := 3) scRight.nd rfl (.inl rfl) (pe_def dA hr (pa_cons (pv 1) (pa_cons (pv 2) pa_nil))))
      (pss_cons (ps_set (i := 4) scRight.nd rfl (.inl rfl) (pe_def dD hr (pa_cons (pv 0) (pa_cons (pe_callB call_len (by rfl) ml PySem.boot_len (pa_cons (pv 1) pa_nil)) pa_nil))))
      (pss_cons (ps_set (i := 5) scRight.nd rfl (.inr rfl) (pe_def dN hr (pa_cons (pv 0) (pa_cons (pe_op op_fdiv (pe_callB call_len (by rfl) ml PySem.boot_len (pa_cons (pv 1) pa_nil)) pe_int) pa_nil))))
      (pss_cons (ps_set (i := 6) scRight.nd rfl (.inl rfl) (pe_callTy call_tuple_of (by rfl) mt boot_tup (pa_cons (pe_lc (own := [("_law_way", 8)]) (g := gName 8) rfl scRight.nd (pi_tup (pv 2)) (blkOk_by (N := ["_law_tape_here", "_law_surface", "_law_ways", "_law_due", "_law_at", "_law_names", "_law_renamed", "_law_weight", "_law_way"]) (sc := defScope sRight) (by decide +kernel))
        (fun _ _ _ _ _ => pg_name (i := 8) scRight.nd rfl (Or.inl rfl)) (fun _ _ _ _ _ => pts_nil) (fun _ _ _ _ _ => pe_def dR hr (pa_cons (pv 5) (pa_cons (pv 8) pa_nil)))) pa_nil)))
      (pss_cons (ps_if (pt_cmpR op_ne (pe_callB (cr_reprD hG hr) (by rfl) me boot_repr (pa_cons (pe_def dA hr (pa_cons (pe_op op_add_str (pe_slice sl_str (pv 1) (po_some (pv 4)) po_none) (pe_slice sl_str (pv 1) po_none (po_some (pv 4)))) (pa_cons (pv 2) pa_nil))) pa_nil)) (pe_callB (cr_reprD hG hr) (by rfl) me boot_repr (pa_cons (pv 3) pa_nil)) (nomark _)) (pss_one (ps_ret pe_bl)) pss_nil)
      (pss_cons (ps_if (pt_cmpR op_ne (pe_callB (cr_reprD hG hr) (by rfl) me boot_repr (pa_cons (pe_def dA hr (pa_cons (pe_revS (pv 1)) (pa_cons (pv 2) pa_nil))) pa_nil)) (pe_callB (cr_reprD hG hr) (by rfl) me boot_repr (pa_cons (pv 3) pa_nil)) (nomark _)) (pss_one (ps_ret pe_bl)) pss_nil)
      (pss_cons (ps_if (pt_cmpR op_ne (pe_callB (cr_reprD hG hr) (by rfl) me boot_repr (pa_cons (pe_def dA hr (pa_cons (pe_def dR hr (pa_cons (pv 5) (pa_cons (pv 1) pa_nil))) (pa_cons (pv 6) pa_nil))) pa_nil)) (pe_callB (cr_reprD hG hr) (by rfl) me boot_repr (pa_cons (pv 3) pa_nil)) (nomark _)) (pss_one (ps_ret pe_bl)) pss_nil)
      (pss_cons (ps_set (i := 7) scRight.nd rfl (.inl rfl) (pe_def dB hr (pa_cons (pv 1) (pa_cons (pe_ix ix_tup (pv 2) pe_int (fun _ _ => rfl)) (pa_cons (pe_ix ix_tup (pv 2) (pe_un un_neg pe_int) (fun _ _ => rfl)) pa_nil)))))
      (pss_cons (ps_if (pt_cmpR op_ne (pe_def dB hr (pa_cons (pe_revS (pv 1)) (pa_cons (pe_ix ix_tup (pv 2) pe_int (fun _ _ => rfl)) (pa_cons (pe_ix ix_tup (pv 2) (pe_un un_neg pe_int) (fun _ _ => rfl)) pa_nil)))) (pe_op op_sub pe_int (pv 7)) (nomark _)) (pss_one (ps_ret pe_bl)) pss_nil)
      (pss_one (ps_ret (pe_cmpR op_eq (pe_def dB hr (pa_cons (pe_def dR hr (pa_cons (pv 5) (pa_cons (pv 1) pa_nil))) (pa_cons (pe_ix ix_tup (pv 6) pe_int (fun _ _ => rfl)) (pa_cons (pe_ix ix_tup (pv 6) (pe_un un_neg pe_int) (fun _ _ => rfl)) pa_nil)))) (pv 7) (nomark _)))))))))))), ?_⟩
    have hl := sf.small
    have n6 := sf.six
    have n1 := sf.one
    have hlen := sf.len
    have g0 := gd_ask (F := F) mW W3
    obtain ⟨u, R, rfl⟩ : ∃ u R, W = u :: R := by
      cases W with
      | nil => exact absurd W1 (by decide)
      | cons u R => exact ⟨u, R, rfl⟩
    obtain ⟨v, hv⟩ : ∃ v, (u :: R).getLast? = some v := ⟨_, List.getLast?_eq_some_getLast (by simp)⟩
    have wu := mW u List.mem_cons_self
    have wv := mW v (List.mem_of_getLast? hv)
    have u8 := wu.few
    have v8 := wv.few
    have at0 : atI ((u :: R).map vS) 0 = some (vS u) := atI_nat (j := 0) rfl
    have atE : atI ((u :: R).map vS) (-1) = some (vS v) := at_end (R := R.map vS) (u := vS u) (by
      have := List.getLast?_map (f := vS) (l := u :: R)
      rw [hv] at this
      exact this)
    -- what is due
    refine q_do ?_
    refine ek_call (n := n) (ev_var rfl) (ev_var rfl) sf hW mW W3 H (Ex.refl _) _ fun r H1 nr e1 hA => ?_
    have rt : r ≠ t := T.fresh nr
    have T1 := T.ex e1
    refine q_do ?_
    show tCall spDraw [] E0 _ _ _ _
    refine draw_go (ca := ca) (n := ((F.length : Nat) : Int)) (ea_cons (ev_var rfl) (ea_cons (ev_lenS (ev_var rfl) (by omega)) ea_nil)) T1 (by omega) (by omega) fun x H2 x0 x1 d2 => ?_
    have hA2 := hA.dr T1 rt d2
    have dd2 := (T.dr e1).trans d2
    -- the names
    refine q_do ?_
    have en : ((F.length : Nat) : Int) / 2 = (n : Int) := by rw [hlen]; omega
    refine (ea_cons (ev_var (i := 0) rfl) (ea_cons (ev_is (ev_op (ev_lenS (K := K) (ev_var (i := 1) rfl) (by omega)) ev_c (rv_I (C := CDiv) ⟨by decide, by decide⟩)) (congrArg V.int en)) ea_nil)) H2 (Ex.refl _) _ fun H3 e3 => ?_
    have dd3 := dd2.plus e3
    refine ⟨t, ca, n, rfl, dd3.tp, n1, n6, fun D rn H4 hD hR nD d4 => ?_⟩
    have hA4 := (hA2.ex e3).dr dd3.tp rt d4
    have dd4 := dd3.trans d4
    have hW4 : WaysT H4 a (u :: R) := hW.dr T dd4
    have sfR := sf.ren hR
    have mWR : ∀ x ∈ (u :: R).map fun u => u.map rn, Way n x := fun x hx => by
      obtain ⟨y, hy, e⟩ := List.mem_map.mp hx
      rw [← e]
      exact (mW y hy).ren hR n6
    have lenV : ((u :: R).map vS).length ≤ 3 := by
      rw [List.length_map]
      exact W3
    -- the ways renamed
    refine q_asgU (eu_tupOf (el_mapT (K := K) (a := a) (xs := (u :: R).map vS) (((u :: R).map fun u => u.map rn).map vS) (ev_var rfl) (st_of hW4) (by rw [List.length_map, List.length_map, List.length_map]) (by omega) (fun _ => rfl) (fun i x y G1 f1 hx hy => ?_))) fun b H5 nb e5 hb => ?_
    · rw [List.getElem?_map] at hx hy
      rw [List.getElem?_map] at hy
      cases hq : (u :: R)[i]? with
      | none =>
        rw [hq] at hx
        cases hx
      | some q =>
        rw [hq] at hx hy
        have ex := Option.some.inj hx
        have ey := Option.some.inj hy
        subst ex
        subst ey
        have wq := mW q (List.mem_of_getElem? hq)
        exact ev_call (ea_cons (ev_var rfl) (ea_cons (ev_var rfl) ea_nil)) (spRenamed_V (hD.ex f1) wq.let_ (by have := wq.few; omega))
    have hb' : WaysT H5 b ((u :: R).map fun u => u.map rn) := hb
    have hA5 := hA4.ex e5
    have hW5 := hW4.ex e5
    have hD5 := hD.ex e5
    have dd5 := dd4.plus e5
    have ea : x = ((x.toNat : Nat) : Int) := by omega
    have lc : ((F.drop x.toNat).length) + (F.take x.toNat).length ≤ 2000 := by
      rw [List.length_drop, List.length_take]
      omega
    -- turned
    refine q_when (et_neS (ev_repr (K := K) (ek_callE (F := rot F x.toNat) (ev_cat (u := F.drop x.toNat) (v := F.take x.toNat) (ev_from (ev_var rfl) (ev_is (ev_var rfl) (congrArg V.int ea)) (by omega)) (ev_to (ev_var rfl) (ev_is (ev_var rfl) (congrArg V.int ea)) (by omega)) lc) (ev_var rfl) (sf.rot (by omega)) hW5 mW W3 (M.rot F n (u :: R) x.toNat sf mW (by omega))) g0 (by decide) (by decide))
      (ev_reprV (K := K) (ev_var rfl) hA5 g0 (by decide) (by decide)) rfl) (fun h => by cases h) fun _ H6 e6 => ?_
    -- from behind
    refine q_when (et_neS (ev_repr (K := K) (ek_callE (F := F.reverse) (ev_revS (ev_var rfl) (by omega)) (ev_var rfl) sf.rev (hW5.ex e6) mW W3 (M.rev F n (u :: R) sf mW)) g0 (by decide) (by decide))
      (ev_reprV (K := K) (ev_var rfl) (hA5.ex e6) g0 (by decide) (by decide)) rfl) (fun h => by cases h) fun _ H7 e7 => ?_
    have e67 := e6.trans e7
    have evF : ∀ (σ : L2.St) (G : Hp), Ex H5 G → σ[5]? = some (some (.ref D)) → σ[1]? = some (some (vS F)) → Ev (tCall spRenamed [] E0 (tCons (tVar 5) (tCons (tVar 1) tNil))) σ G (vS (F.map rn)) := fun σ G e h5 h1 =>
      ev_call (ea_cons (ev_var h5) (ea_cons (ev_var h1) ea_nil)) (spRenamed_V (hD5.ex e) (fun c hc => (sf.mem c).mp hc) (by omega))
    -- renamed
    refine q_when (et_neS (ev_repr (K := K) (ek_callE (F := F.map rn) (evF _ _ e67 rfl rfl) (ev_var rfl) sfR (hb'.ex e67) mWR (by rw [List.length_map]; exact W3) (M.ren F n (u :: R) rn sf mW hR)) g0 (by decide) (by decide))
      (ev_reprV (K := K) (ev_var rfl) (hA5.ex e67) g0 (by decide) (by decide)) rfl) (fun h => by cases h) fun _ H8 e8 => ?_
    have e58 := e67.trans e8
    have hW8 := hW5.ex e58
    -- the balance
    refine q_asg (ev_call (ea_cons (ev_var rfl) (ea_cons (ev_op (ev_var rfl) ev_c (rv_ixT (st_of hW8) at0)) (ea_cons (ev_op (ev_var rfl) (ev_un ev_c ru_neg) (rv_ixT (st_of hW8) atE)) ea_nil))) (spBalance_V sf (by omega) (by omega))) fun H9 e9 => ?_
    have hW9 := hW8.ex e9
    refine q_when (et_neS (x := .int (0 - balI F n u v)) (ev_is (ev_call (ea_cons (ev_revS (ev_var rfl) (by omega)) (ea_cons (ev_op (ev_var rfl) ev_c (rv_ixT (st_of hW9) at0)) (ea_cons (ev_op (ev_var rfl) (ev_un ev_c ru_neg) (rv_ixT (st_of hW9) atE)) ea_nil))) (spBalance_V sf.rev (by omega) (by omega))) (congrArg V.int (M.brev F n u v sf wu wv)))
      (ev_op ev_c (ev_var rfl) rv_I0) rfl) (fun h => by cases h) fun _ H10 e10 => ?_
    have e510 := (e58.trans e9).trans e10
    have hb10 := hb'.ex e510
    have at0R : atI (((u :: R).map fun u => u.map rn).map vS) 0 = some (vS (u.map rn)) := atI_nat (j := 0) rfl
    have atER : atI (((u :: R).map fun u => u.map rn).map vS) (-1) = some (vS (v.map rn)) := at_end (R := (R.map fun u : Wd => List.map rn u).map vS) (u := vS (u.map rn)) (v := vS (v.map rn)) (by
      have := List.getLast?_map (f := fun u : Wd => vS (u.map rn)) (l := u :: R)
      rw [hv] at this
      rw [List.map_map]
      exact this)
    refine s_ret (ev_is (ev_op (ev_is (ev_call (ea_cons (evF _ _ e510 rfl rfl) (ea_cons (ev_op (ev_var rfl) ev_c (rv_ixT (st_of hb10) at0R)) (ea_cons (ev_op (ev_var rfl) (ev_un ev_c ru_neg) (rv_ixT (st_of hb10) atER)) ea_nil))) (spBalance_V sfR (by rw [List.length_map]; omega) (by rw [List.length_map]; omega))) (congrArg V.int (M.bren F n u v rn sf wu wv hR))) (ev_var rfl) (rv_eq rfl)) (by rw [decide_eq_true rfl])) fun H11 e11 => ?_
    exact z H11 (dd5.plus (e510.trans e11))
end
end RW
set_option Elab.async false
set_option linter.all false
set_option maxRecDepth 100000
set_option maxHeartbeats 4000000
namespace RW
open PySem PySem.Spec PyProof.Rows L2 SX Evl

/-! ### law -/
def spLaw (K : PySem.W.Frag) : Sp := fun vs H Q _ => ∃ (a : Addr) (ns : List Int), vs = [.ref a] ∧ SqL K H a (ns.map V.int) ∧ ∀ H', Q (.bl true) H'
section
variable {P : Program} {w : World} {K : PySem.W.Frag} {mg : Str → Option Value} {base : Heap}
theorem ok_law {f f1 f2 f3 f4 f5 f6 : Addr} {fd fd1 fd2 fd3 fd4 fd5 fd6 : FuncData} {k : Nat} (F0 : Fun K "law" "law" sLaw f fd) (ml : mg "len" = none) (mr : mg "range" = none)
    (dT : Def P w K mg base (k + 2) "_law_tape" ["_law_script"] (spTape K) f1 fd1) (dD : Def P w K mg base (k + 2) "_law_draw" ["_law_tape_here", "_law_many"] spDraw f2 fd2) (dR : Def P w K mg base (k + 2) "_law_any_row" ["_law_tape_here", "_law_most"] spAnyRow f3 fd3)
    (dW : Def P w K mg base (k + 2) "_law_some_ways" ["_law_tape_here", "_law_many", "_law_most", "_law_long"] spSomeWays f4 fd4)
    (dX : FnG P w K mg base (k + 2) f5 fd5 ["_law_tape_here", "_law_surface", "_law_ways"] spTurned) (bX : Binds K fd5 ["_law_tape_here", "_law_surface", "_law_ways"] []) (gX : mg "_law_right" = some (.ref f5)) (kX : PySem.W.keepIn K (.ref f5) = true)
    (dU : Def P w K mg base (k + 2) "_law_turned_right" ["_law_tape_here", "_law_surface", "_law_ways"] spTurned f6 fd6) :
    FnG P w K mg base (k + 3) f fd ["_law_script"] (spLaw K) := by
  refine okG F0 scLaw (fun vs H Q E h => ?_) (fun cdv A outer s H vs Q E hG hr h => ?_)
  · obtain ⟨a, ns, rfl, _⟩ := h
    rfl
  · obtain ⟨a, ns, rfl, hS, z⟩ := h
    refine ⟨_, pss_cons (ps_set (i := 1) scLaw.nd rfl (.inl rfl) (pe_def dT hr (pa_cons (pv 0) pa_nil)))
      (pss_cons (ps_for PassesOwn.never rfl (pi_range1 rfl mr (pa_cons pe_int pa_nil)) (pg_name (i := 2) scLaw.nd rfl (Or.inl rfl))
        (pss_cons (ps_set (i := 3) scLaw.nd rfl (.inl rfl) (pe_def dR hr (pa_cons (pv 1) (pa_cons pe_int pa_nil))))
        (pss_cons (ps_set (i := 4) scLaw.nd rfl (.inl rfl) (pe_def dW hr (pa_cons (pv 1) (pa_cons (pe_op op_fdiv (pe_callB call_len (by rfl) ml PySem.boot_len (pa_cons (pv 3) pa_nil)) pe_int) (pa_cons pe_int (pa_cons (pe_ix ix_list (pe_lst (pa_cons pe_int (pa_cons pe_int (pa_cons pe_int pa_nil)))) (pe_def dD hr (pa_cons (pv 1) (pa_cons pe_int pa_nil))) (fun _ _ => rfl)) pa_nil))))))
        (pss_one (ps_if (PW.pt (pw_or (pt_not (pt_val (pe_callG dX hG hr rfl gX kX bX (pa_cons (pv 1) (pa_cons (pv 3) (pa_cons (pv 4) pa_nil)))))) (pw_or1 (pt_not (pt_val (pe_def dU hr (pa_cons (pv 1) (pa_cons (pv 3) (pa_cons (pv 4) pa_nil)))))))))
          (pss_one (ps_ret pe_bl)) pss_nil)))))
      (pss_one (ps_ret pe_bl))), ?_⟩
    refine q_do ?_
    refine ⟨.ref a, rfl, a, ns, rfl, hS, fun t ca H1 nt e1 T => ?_⟩
    refine q_forR1 (n := 3) (ea_cons ev_c ea_nil) (by decide) (fun i σ' G => ∃ y2 y3 y4, σ' = [some (.ref a), some (.ref t), y2, y3, y4] ∧ Tp G t ca)
      (fun G e => ⟨none, none, none, rfl, T.ex e⟩) (fun i σ' G hi hP => ?_) fun σ' G hP => ?_
    · obtain ⟨y2, y3, y4, rfl, T⟩ := hP
      refine q_do ?_
      refine ⟨.ref t, rfl, t, ca, rfl, T, fun F n H2 sf d2 => ?_⟩
      have hlen := sf.len
      have n6 := sf.six
      have n1 := sf.one
      have en : ((F.length : Nat) : Int) / 2 = (n : Int) := by rw [hlen]; omega
      refine q_do ?_
      refine ⟨.ref t, rfl, ?_⟩
      refine (ev_is (ev_op (ev_lenS (K := K) (u := F) (ev_var (i := 3) rfl) (by omega)) ev_c (rv_I (C := CDiv) ⟨by decide, by decide⟩)) (congrArg V.int en)) H2 (Ex.refl _) _ fun H3 e3 => ?_
      show tC (.int 3) _ _ _
      refine (ev_c : Ev (tC (.int 3)) _ H3 (.int 3)) H3 (Ex.refl _) _ fun H3' e3' => ?_
      show tOp _ _ _ _ _ _
      show tLst _ _ _ _
      refine el_lst (ea_cons ev_c (ea_cons ev_c (ea_cons ev_c ea_nil))) (by show 3 ≤ 100000; decide) H3' (Ex.refl _) _ fun p H4 np e4 h4 => ?_
      have e3 := e3.trans e3'
      show tCall spDraw [] E0 _ _ _ _
      have d4 := d2.plus (e3.trans e4)
      have npt : p ≠ t := (d2.plus e3).fresh np
      refine draw_go (ca := ca) (ea_cons (ev_var rfl) (ea_cons ev_c ea_nil)) d4.tp (by decide) (by decide) fun b H5 b0 b1 d5 => ?_
      have h5 := d5.ex p _ npt h4
      have hb2 : ∃ l : Nat, atI [V.int 3, V.int 5, V.int 8] b = some (.int (l : Int)) ∧ 1 ≤ l ∧ l ≤ 8 := by
        have : b = 0 ∨ b = 1 ∨ b = 2 := by omega
        rcases this with rfl | rfl | rfl
        · exact ⟨3, atI_nat (j := 0) rfl, by decide, by decide⟩
        · exact ⟨5, atI_nat (j := 1) rfl, by decide, by decide⟩
        · exact ⟨8, atI_nat (j := 2) rfl, by decide, by decide⟩
      obtain ⟨l, hb, l1, l8⟩ := hb2
      refine ⟨p, _, b, _, rfl, rfl, sq_of h5, hb, ?_⟩
      refine ⟨t, ca, n, l, rfl, d5.tp, n1, n6, l1, l8, fun c W H6 hW mW W1 W3 d6 => ?_⟩
      show tIfS _ _ _ _ _ _
      refine ⟨.ref t, rfl, vS F, rfl, .ref c, rfl, ?_⟩
      refine ⟨t, ca, c, F, n, W, rfl, d6.tp, sf, hW, mW, W1, W3, fun H7 d7 => ?_⟩
      refine ⟨true, rfl, ?_⟩
      refine ⟨.ref t, rfl, vS F, rfl, .ref c, rfl, ?_⟩
      refine ⟨t, ca, c, F, n, W, rfl, d7.tp, sf, hW.dr d6.tp d7, mW, W1, W3, fun H8 d8 => ?_⟩
      exact ⟨true, rfl, _, _, _, rfl, d8.tp⟩
    · exact z G
end
end RW
set_option Elab.async false
set_option linter.all false
set_option maxRecDepth 100000
set_option maxHeartbeats 4000000
namespace RW

/-! ### sums -/
def sN : Nat → (Nat → Nat) → Nat
  | 0, _ => 0
  | n + 1, f => sN n f + f n
theorem sN_congr {n : Nat} {f g : Nat → Nat} (h : ∀ k, k < n → f k = g k) : sN n f = sN n g := by
  induction n with
  | zero => rfl
  | succ n ih =>
    show sN n f + f n = sN n g + g n
    rw [ih fun k hk => h k (by omega), h n (by omega)]
theorem sN_zero {n : Nat} {f : Nat → Nat} (h : ∀ k, k < n → f k = 0) : sN n f = 0 := by
  induction n with
  | zero => rfl
  | succ n ih =>
    show sN n f + f n = 0
    rw [ih fun k hk => h k (by omega), h n (by omega)]
theorem sN_add (n : Nat) (f g : Nat → Nat) : sN n (fun k => f k + g k) = sN n f + sN n g := by
  induction n with
  | zero => rfl
  | succ n ih =>
    show sN n (fun k => f k + g k) + (f n + g n) = (sN n f + f n) + (sN n g + g n)
    rw [ih]
    omega
theorem sN_two (n : Nat) (f : Nat → Nat) : sN n (fun k => 2 * f k) = 2 * sN n f := by
  induction n with
  | zero => rfl
  | succ n ih =>
    show sN n (fun k => 2 * f k) + 2 * f n = 2 * (sN n f + f n)
    rw [ih]
    omega
theorem sN_comm (n m : Nat) (f : Nat → Nat → Nat) : sN n (fun p => sN m (f p)) = sN m (fun q => sN n (fun p => f p q)) := by
  induction n with
  | zero => exact (sN_zero fun _ _ => rfl).symm
  | succ n ih =>
    show sN n (fun p => sN m (f p)) + sN m (f n) = _
    rw [ih, ← sN_add]
    rfl
theorem sN_head (n : Nat) (f : Nat → Nat) : sN (n + 1) f = f 0 + sN n (fun k => f (k + 1)) := by
  induction n with
  | zero =>
    show 0 + f 0 = f 0 + 0
    omega
  | succ n ih =>
    show sN (n + 1) f + f (n + 1) = f 0 + (sN n (fun k => f (k + 1)) + f (n + 1))
    rw [ih]
    omega
theorem sN_rev (f : Nat → Nat) : ∀ n, sN n (fun k => f (n - 1 - k)) = sN n f
  | 0 => rfl
  | n + 1 => by
    rw [sN_head]
    show f (n + 1 - 1 - 0) + _ = sN n f + f n
    rw [show n + 1 - 1 - 0 = n by omega, ← sN_rev f n, Nat.add_comm]
    congr 1
    exact sN_congr fun k hk => by rw [show n + 1 - 1 - (k + 1) = n - 1 - k by omega]
theorem sN_one {n m : Nat} {f : Nat → Nat} (h : ∀ k, k < n → k ≠ m → f k = 0) : sN n f = if m < n then f m else 0 := by
  induction n with
  | zero => rfl
  | succ n ih =>
    show sN n f + f n = _
    rw [ih fun k hk => h k (by omega)]
    by_cases q : n = m
    · subst q
      rw [if_neg (by omega), if_pos (by omega)]
      omega
    · rw [h n (by omega) q]
      by_cases r : m < n
      · rw [if_pos r, if_pos (by omega)]
        rfl
      · rw [if_neg r, if_neg (by omega)]

/-! ### round a period -/
def Per (L : Nat) (f : Int → Nat) : Prop := ∀ k, f (k + (L : Int)) = f k
def sP (L : Nat) (f : Int → Nat) : Nat := sN L fun k => f (k : Int)
theorem sP_congr {L : Nat} {f g : Int → Nat} (h : ∀ k, f k = g k) : sP L f = sP L g := sN_congr fun k _ => h k
theorem sP_nat {L : Nat} : ∀ (a : Nat) {f : Int → Nat}, Per L f → sP L (fun k => f (k + (a : Int))) = sP L f
  | 0, f, _ => sP_congr fun k => by rw [Int.natCast_zero, Int.add_zero]
  | a + 1, f, h => by
    have h1 : sP L (fun k => f (k + 1)) = sP L f := by
      have e := sN_head L fun k => f (k : Int)
      have e2 : sN (L + 1) (fun k => f (k : Int)) = sN L (fun k => f (k : Int)) + f (L : Int) := rfl
      have e3 := h 0
      rw [Int.zero_add] at e3
      rw [e2, e3] at e
      have e4 : (fun k : Nat => f ((k + 1 : Nat) : Int)) = fun k : Nat => f ((k : Int) + 1) := rfl
      rw [e4] at e
      have e5 : f ((0 : Nat) : Int) = f 0 := rfl
      show sN L (fun k : Nat => f ((k : Int) + 1)) = sN L fun k : Nat => f (k : Int)
      omega
    have h2 := sP_nat a (f := fun k => f (k + 1)) fun k => by
      have := h (k + 1)
      show f (k + (L : Int) + 1) = f (k + 1)
      rw [show k + (L : Int) + 1 = k + 1 + (L : Int) by omega]
      exact this
    rw [← h1, ← h2]
    exact sP_congr fun k => by rw [show k + ((a + 1 : Nat) : Int) = k + (a : Int) + 1 by omega]
theorem Per.sh {L : Nat} {f : Int → Nat} (h : Per L f) (a : Int) : Per L fun k => f (k + a) := fun k => by
  have := h (k + a)
  show f (k + (L : Int) + a) = f (k + a)
  rw [show k + (L : Int) + a = k + a + (L : Int) by omega]
  exact this
theorem sP_shift {L : Nat} {f : Int → Nat} (h : Per L f) (a : Int) : sP L (fun k => f (k + a)) = sP L f := by
  rcases Int.le_total 0 a with q | q
  · have := sP_nat a.toNat h
    rw [Int.toNat_of_nonneg q] at this
    exact this
  · have := sP_nat (-a).toNat (h.sh a)
    rw [← this]
    exact sP_congr fun k => by rw [show k + (((-a).toNat : Nat) : Int) + a = k by omega]
theorem sP_neg {L : Nat} {f : Int → Nat} (h : Per L f) : sP L (fun k => f (-1 - k)) = sP L f := by
  unfold sP
  rw [← sN_rev (fun k => f (k : Int)) L]
  refine sN_congr fun k hk => ?_
  have := h (-1 - (k : Int))
  show f (-1 - (k : Int)) = _
  rw [← this, show -1 - (k : Int) + (L : Int) = ((L - 1 - k : Nat) : Int) by omega]
theorem sP_refl {L : Nat} {f : Int → Nat} (h : Per L f) (c : Int) : sP L (fun k => f (c - k)) = sP L f := by
  have := sP_neg (h.sh (c + 1))
  rw [sP_shift h (c + 1)] at this
  rw [← this]
  exact sP_congr fun k => by rw [show -1 - k + (c + 1) = c - k by omega]
def S2 (n m : Nat) (f : Int → Int → Nat) : Nat := sP n fun p => sP m fun q => f p q
theorem S2_congr {n m : Nat} {f g : Int → Int → Nat} (h : ∀ p q, f p q = g p q) : S2 n m f = S2 n m g := sP_congr fun p => sP_congr fun q => h p q
theorem S2_comm (n m : Nat) (f : Int → Int → Nat) : S2 n m f = S2 m n fun q p => f p q := sN_comm n m fun p q => f p q
theorem S2_sh1 {n m : Nat} {f : Int → Int → Nat} (h : ∀ q, Per n fun p => f p q) (a : Int) : S2 n m (fun p q => f (p + a) q) = S2 n m f :=
  sP_shift (L := n) (f := fun p => sP m fun q => f p q) (fun p => sP_congr fun q => h q p) a
theorem S2_rf1 {n m : Nat} {f : Int → Int → Nat} (h : ∀ q, Per n fun p => f p q) (a : Int) : S2 n m (fun p q => f (a - p) q) = S2 n m f :=
  sP_refl (L := n) (f := fun p => sP m fun q => f p q) (fun p => sP_congr fun q => h q p) a
theorem S2_sh2 {n m : Nat} {f : Int → Int → Nat} (h : ∀ p, Per m fun q => f p q) (a : Int) : S2 n m (fun p q => f p (q + a)) = S2 n m f :=
  sP_congr fun p => sP_shift (h p) a
theorem S2_rf2 {n m : Nat} {f : Int → Int → Nat} (h : ∀ p, Per m fun q => f p q) (a : Int) : S2 n m (fun p q => f p (a - q)) = S2 n m f :=
  sP_congr fun p => sP_refl (h p) a
/-- half of what is alike from both sides -/
theorem half {n : Nat} {h : Nat → Nat → Nat} (hs : ∀ p q, p < n → q < n → h p q = h q p) (h0 : ∀ p, p < n → h p p = 0) : 2 * sN n (fun p => sN n fun q => if p < q then h p q else 0) = sN n fun p => sN n fun q => h p q := by
  have e1 : (sN n fun p => sN n fun q => h p q) = sN n fun p => sN n fun q => (if p < q then h p q else 0) + (if q < p then h p q else 0) :=
    sN_congr fun p hp => sN_congr fun q hq => by
      rcases Nat.lt_trichotomy p q with r | r | r
      · rw [if_pos r, if_neg (by omega)]
        rfl
      · subst r
        rw [if_neg (by omega), h0 p hp]
      · rw [if_neg (by omega), if_pos r, Nat.zero_add]
  have e2 : (sN n fun p => sN n fun q => if q < p then h p q else 0) = sN n fun p => sN n fun q => if p < q then h p q else 0 := by
    rw [sN_comm]
    exact sN_congr fun p hp => sN_congr fun q hq => by
      show (if p < q then h q p else 0) = _
      rw [hs q p hq hp]
  have e3 : (sN n fun p => sN n fun q => (if p < q then h p q else 0) + (if q < p then h p q else 0)) = (sN n fun p => sN n fun q => if p < q then h p q else 0) + sN n fun p => sN n fun q => if q < p then h p q else 0 := by
    rw [← sN_add]
    exact sN_congr fun p _ => sN_add n _ _
  rw [e1, e3, e2]
  omega
/-- the one turn that counts -/
theorem run_is {f : Nat → Bool} {t : Nat} (ht : f t = false) : ∀ (n k : Nat), (∀ m, k ≤ m → m < t → f m = true) → k ≤ t → t ≤ k + n → runL f n k = t
  | 0, k, _, h1, h2 => by
    unfold runL
    omega
  | n + 1, k, h, h1, h2 => by
    unfold runL
    by_cases q : k = t
    · subst q
      rw [ht]
      rfl
    · rw [if_pos (h k (Nat.le_refl _) (by omega))]
      exact run_is ht n (k + 1) (fun m h3 h4 => h m (by omega) h4) (by omega) (by omega)
theorem run_sum {f g : Nat → Bool} {T : Nat} (h : ∀ t, g t = true → (∀ k, k < t → f k = true) ∧ f t = false) : (decide (0 < runL f T 0) && g (runL f T 0)).toNat = sN T fun t => (g (t + 1)).toNat := by
  have key : ∀ t, t ≤ T → g t = true → runL f T 0 = t := fun t ht hg => run_is (h t hg).2 T 0 (fun m _ hm => (h t hg).1 m hm) (Nat.zero_le _) (by omega)
  have hR : runL f T 0 ≤ T := by
    have := runL_le f T 0
    omega
  generalize runL f T 0 = R at *
  rw [sN_one (m := R - 1) fun k hk hn => by
    cases hg : g (k + 1) with
    | false => rfl
    | true =>
      have := key (k + 1) (by omega) hg
      omega]
  cases R with
  | zero =>
    show 0 = _
    split
    · cases hg : g (0 - 1 + 1) with
      | false => rfl
      | true =>
        have := key _ (by omega) hg
        omega
    · rfl
  | succ R =>
    rw [if_pos (by omega), show R + 1 - 1 + 1 = R + 1 by omega, decide_eq_true (by omega), Bool.true_and]
end RW
set_option Elab.async false
set_option linter.all false
set_option maxRecDepth 100000
set_option maxHeartbeats 4000000
namespace RW

/-! ### pairs of strands, by what is read from them on -/
def vx (u : Wd) (p : Int) : Int → Nat := fun k => atw u (p + k)
def alX (F : Wd) (x y : Int → Nat) (t : Nat) : Bool := agr (fun k => x k) (fun k => y k) t && (!(x (-1) == y (-1)) && (!(x t == y t) && (cf F (bk (x ((t : Int) - 1))) (x t) (y t) == cf F (x 0) (bk (x (-1))) (bk (y (-1))))))
def beX (F : Wd) (x y : Int → Nat) : Bool := four (bk (x 0)) (x 1) (bk (y 0)) (y 1) && crs F (bk (x 0)) (x 1) (bk (y 0)) (y 1)
theorem besC_v (F u v : Wd) (p q : Int) : besC F u v p q = beX F (vx u p) (vx v q) := by
  unfold besC beX vx
  rw [Int.add_zero, Int.add_zero]
theorem aloC_v (F u v : Wd) (p q : Int) (t : Nat) : aloC F u v p q t = alX F (vx u p) (vx v q) t := by
  unfold aloC alX vx
  rw [Int.add_zero]
  rfl
theorem vx_bw {v : Wd} (hv : v ≠ []) (q k : Int) : vx (bw v) (-1 - q) k = bk (atw v (q - k)) := by
  unfold vx
  rw [atw_bw hv, show -1 - (-1 - q + k) = q - k by omega]
theorem agaC_v {F u v : Wd} {n : Nat} (hn : n ≤ 6) (hv : v ≠ []) (lv : ∀ c ∈ v, isLK n c) (p q : Int) (t : Nat) : agaC F u v p q t = alX F (vx u p) (vx (bw v) (-1 - q)) t := by
  unfold alX
  have e : (fun k : Nat => vx (bw v) (-1 - q) (k : Int)) = fun k : Nat => bk (atw v (q - k)) := funext fun k => vx_bw hv q k
  rw [e, vx_bw hv, vx_bw hv, show q - -1 = q + 1 by omega, bk_bk hn (lv _ (atw_get hv _).2)]
  unfold agaC vx
  rw [Int.add_zero]
  rfl
theorem runG_v {u v : Wd} (hv : v ≠ []) (p q : Int) : runG u v p q = runA u (bw v) p (-1 - q) := by
  unfold runG runA
  rw [bw_len]
  congr 1
  funext k
  unfold fG fA
  have := vx_bw hv q k
  unfold vx at this
  rw [this]
theorem agr_iff {x y : Nat → Nat} {t : Nat} : agr x y t = true ↔ ∀ k, k < t → x k = y k := by
  unfold agr
  rw [List.all_eq_true]
  constructor
  · intro h k hk
    exact eq_of_beq (h k (List.mem_range.mpr hk))
  · intro h k hk
    rw [h k (List.mem_range.mp hk)]
    exact beq_self_eq_true _
structure AlP (F : Wd) (x y : Int → Nat) (t : Nat) : Prop where
  a : ∀ k : Nat, k < t → x k = y k
  e1 : x (-1) ≠ y (-1)
  e2 : x t ≠ y t
  c : cf F (bk (x ((t : Int) - 1))) (x t) (y t) = cf F (x 0) (bk (x (-1))) (bk (y (-1)))
theorem alX_iff {F : Wd} {x y : Int → Nat} {t : Nat} : alX F x y t = true ↔ AlP F x y t := by
  unfold alX
  rw [Bool.and_eq_true, Bool.and_eq_true, Bool.and_eq_true, agr_iff, Bool.not_eq_true', Bool.not_eq_true', beq_eq_false_iff_ne, beq_eq_false_iff_ne, beq_iff_eq]
  exact ⟨fun h => ⟨h.1, h.2.1, h.2.2.1, h.2.2.2⟩, fun h => ⟨h.a, h.e1, h.e2, h.c⟩⟩
section
variable {F : Wd} {n t : Nat} {x y : Int → Nat}
theorem AlP.last (h : AlP F x y t) (ht : 1 ≤ t) : x ((t : Int) - 1) = y ((t : Int) - 1) := by
  have := h.a (t - 1) (by omega)
  rw [show ((t - 1 : Nat) : Int) = (t : Int) - 1 by omega] at this
  exact this
theorem AlP.first (h : AlP F x y t) (ht : 1 ≤ t) : x 0 = y 0 := h.a 0 (by omega)
theorem AlP.swap (sf : Sf F n) (lx : ∀ k, isLK n (x k)) (ly : ∀ k, isLK n (y k)) (ht : 1 ≤ t) (h : AlP F x y t) : AlP F y x t := by
  refine ⟨fun k hk => (h.a k hk).symm, h.e1.symm, h.e2.symm, ?_⟩
  have m : ∀ {c}, isLK n c → c ∈ F := fun hc => (sf.mem _).mpr hc
  rw [← h.last ht, ← h.first ht, cf_swap (m (bk_isLK sf.six (lx _))) (m (lx _)) (m (ly _)) h.e2, h.c,
    cf_swap (m (lx 0)) (m (bk_isLK sf.six (lx (-1)))) (m (bk_isLK sf.six (ly (-1)))) fun q => h.e1 (bk_inj sf.six (lx _) (ly _) q)]
theorem alX_swap (sf : Sf F n) (lx : ∀ k, isLK n (x k)) (ly : ∀ k, isLK n (y k)) (ht : 1 ≤ t) : alX F y x t = alX F x y t := by
  rw [Bool.eq_iff_iff, alX_iff, alX_iff]
  exact ⟨AlP.swap sf ly lx ht, AlP.swap sf lx ly ht⟩
theorem AlP.rev (hn : n ≤ 6) (lx : ∀ k, isLK n (x k)) (ly : ∀ k, isLK n (y k)) (h : AlP F x y t) : AlP F (fun k => bk (x ((t : Int) - 1 - k))) (fun k => bk (y ((t : Int) - 1 - k))) t := by
  refine ⟨fun k hk => ?_, ?_, ?_, ?_⟩
  · have := h.a (t - 1 - k) (by omega)
    rw [show ((t - 1 - k : Nat) : Int) = (t : Int) - 1 - (k : Int) by omega] at this
    show bk (x _) = bk (y _)
    rw [this]
  · show bk (x ((t : Int) - 1 - -1)) ≠ bk (y ((t : Int) - 1 - -1))
    rw [show (t : Int) - 1 - -1 = (t : Int) by omega]
    exact fun q => h.e2 (bk_inj hn (lx _) (ly _) q)
  · show bk (x ((t : Int) - 1 - (t : Int))) ≠ bk (y ((t : Int) - 1 - (t : Int)))
    rw [show (t : Int) - 1 - (t : Int) = -1 by omega]
    exact fun q => h.e1 (bk_inj hn (lx _) (ly _) q)
  · show cf F (bk (bk (x ((t : Int) - 1 - ((t : Int) - 1))))) (bk (x ((t : Int) - 1 - (t : Int)))) (bk (y ((t : Int) - 1 - (t : Int)))) = cf F (bk (x ((t : Int) - 1 - 0))) (bk (bk (x ((t : Int) - 1 - -1)))) (bk (bk (y ((t : Int) - 1 - -1))))
    rw [show (t : Int) - 1 - -1 = (t : Int) by omega, show (t : Int) - 1 - (t : Int) = -1 by omega, show (t : Int) - 1 - ((t : Int) - 1) = 0 by omega, Int.sub_zero, bk_bk hn (lx 0), bk_bk hn (lx t), bk_bk hn (ly t)]
    exact h.c.symm
theorem alX_rev (hn : n ≤ 6) (lx : ∀ k, isLK n (x k)) (ly : ∀ k, isLK n (y k)) : alX F (fun k => bk (x ((t : Int) - 1 - k))) (fun k => bk (y ((t : Int) - 1 - k))) t = alX F x y t := by
  rw [Bool.eq_iff_iff, alX_iff, alX_iff]
  refine ⟨fun h => ?_, AlP.rev hn lx ly⟩
  have := AlP.rev hn (fun k => bk_isLK hn (lx _)) (fun k => bk_isLK hn (ly _)) h
  have ex : (fun k : Int => bk (bk (x ((t : Int) - 1 - ((t : Int) - 1 - k))))) = x := funext fun k => by rw [bk_bk hn (lx _), show (t : Int) - 1 - ((t : Int) - 1 - k) = k by omega]
  have ey : (fun k : Int => bk (bk (y ((t : Int) - 1 - ((t : Int) - 1 - k))))) = y := funext fun k => by rw [bk_bk hn (ly _), show (t : Int) - 1 - ((t : Int) - 1 - k) = k by omega]
  rw [ex, ey] at this
  exact this
theorem four_iff {f l b e : Nat} : four f l b e = true ↔ f ≠ l ∧ f ≠ b ∧ f ≠ e ∧ l ≠ b ∧ l ≠ e ∧ b ≠ e := by
  unfold four
  exact decide_eq_true_iff
theorem beX_swap (sf : Sf F n) (lx : ∀ k, isLK n (x k)) (ly : ∀ k, isLK n (y k)) : beX F y x = beX F x y := by
  have m : ∀ {c}, isLK n c → c ∈ F := fun hc => (sf.mem _).mpr hc
  unfold beX
  have e : four (bk (y 0)) (y 1) (bk (x 0)) (x 1) = four (bk (x 0)) (x 1) (bk (y 0)) (y 1) := by
    rw [Bool.eq_iff_iff, four_iff, four_iff]
    constructor
    · rintro ⟨h1, h2, h3, h4, h5, h6⟩
      exact ⟨h6, h2.symm, h4.symm, h3.symm, h5.symm, h1⟩
    · rintro ⟨h1, h2, h3, h4, h5, h6⟩
      exact ⟨h6, h2.symm, h4.symm, h3.symm, h5.symm, h1⟩
  rw [e]
  cases hq : four (bk (x 0)) (x 1) (bk (y 0)) (y 1) with
  | false => rfl
  | true =>
    obtain ⟨h1, h2, h3, h4, h5, h6⟩ := four_iff.mp hq
    rw [crs_swap (m (bk_isLK sf.six (lx 0))) (m (lx 1)) (m (bk_isLK sf.six (ly 0))) (m (ly 1)) h1 h2 h3 h4 h5 h6]
theorem beX_rev (sf : Sf F n) (lx : ∀ k, isLK n (x k)) (ly : ∀ k, isLK n (y k)) : beX F (fun k => bk (x (1 - k))) y = beX F x y := by
  have m : ∀ {c}, isLK n c → c ∈ F := fun hc => (sf.mem _).mpr hc
  show (four (bk (bk (x (1 - 0)))) (bk (x (1 - 1))) (bk (y 0)) (y 1) && crs F (bk (bk (x (1 - 0)))) (bk (x (1 - 1))) (bk (y 0)) (y 1)) = beX F x y
  rw [Int.sub_zero, Int.sub_self, bk_bk sf.six (lx 1)]
  unfold beX
  have e : four (x 1) (bk (x 0)) (bk (y 0)) (y 1) = four (bk (x 0)) (x 1) (bk (y 0)) (y 1) := by
    rw [Bool.eq_iff_iff, four_iff, four_iff]
    constructor
    · rintro ⟨h1, h2, h3, h4, h5, h6⟩
      exact ⟨h1.symm, h4, h5, h2, h3, h6⟩
    · rintro ⟨h1, h2, h3, h4, h5, h6⟩
      exact ⟨h1.symm, h4, h5, h2, h3, h6⟩
  rw [e]
  cases hq : four (bk (x 0)) (x 1) (bk (y 0)) (y 1) with
  | false => rfl
  | true =>
    obtain ⟨h1, h2, h3, h4, h5, h6⟩ := four_iff.mp hq
    rw [crs_turn (m (bk_isLK sf.six (lx 0))) (m (lx 1)) (m (bk_isLK sf.six (ly 0))) (m (ly 1)) h1 h2 h3 h4 h5 h6]
/-- another surface, letters told otherwise -/
structure Inv (F F' : Wd) (n : Nat) (r : Nat → Nat) (fl : Bool) : Prop where
  cf_ : ∀ b o t, b ∈ F → o ∈ F → t ∈ F → o ≠ b → t ≠ b → o ≠ t → cf F' (r b) (r o) (r t) = (cf F b o t != fl)
  bk_ : ∀ c, isLK n c → r (bk c) = bk (r c)
  inj : ∀ c, isLK n c → ∀ d, isLK n d → r c = r d → c = d
theorem alX_inv {F' : Wd} {r : Nat → Nat} {fl : Bool} (sf : Sf F n) (I : Inv F F' n r fl) (lx : ∀ k, isLK n (x k)) (ly : ∀ k, isLK n (y k)) (rx : ∀ k, x (k + 1) ≠ bk (x k)) (ry : ∀ k, y (k + 1) ≠ bk (y k)) (ht : 1 ≤ t) :
    alX F' (fun k => r (x k)) (fun k => r (y k)) t = alX F x y t := by
  have m : ∀ {c}, isLK n c → c ∈ F := fun hc => (sf.mem _).mpr hc
  have b6 : ∀ {c}, isLK n c → isLK n (bk c) := fun hc => bk_isLK sf.six hc
  have key : (∀ k : Nat, k < t → x k = y k) → x (-1) ≠ y (-1) → x t ≠ y t → (cf F' (bk (r (x ((t : Int) - 1)))) (r (x t)) (r (y t)) = cf F' (r (x 0)) (bk (r (x (-1)))) (bk (r (y (-1)))) ↔ cf F (bk (x ((t : Int) - 1))) (x t) (y t) = cf F (x 0) (bk (x (-1))) (bk (y (-1)))) := fun a e1 e2 => by
    have a0 : x 0 = y 0 := a 0 (by omega)
    have at_ : x ((t : Int) - 1) = y ((t : Int) - 1) := by
      have := a (t - 1) (by omega)
      rw [show ((t - 1 : Nat) : Int) = (t : Int) - 1 by omega] at this
      exact this
    have r1 := rx ((t : Int) - 1)
    have r2 := ry ((t : Int) - 1)
    have r3 := rx (-1)
    have r4 := ry (-1)
    rw [show (t : Int) - 1 + 1 = (t : Int) by omega] at r1 r2
    rw [show (-1 : Int) + 1 = 0 by decide] at r3 r4
    rw [← I.bk_ _ (lx _), ← I.bk_ _ (lx _), ← I.bk_ _ (ly _), I.cf_ _ _ _ (m (b6 (lx _))) (m (lx _)) (m (ly _)) r1 (by rw [at_]; exact r2) e2,
      I.cf_ _ _ _ (m (lx _)) (m (b6 (lx _))) (m (b6 (ly _))) (Ne.symm r3) (by rw [a0]; exact Ne.symm r4) fun q => e1 (bk_inj sf.six (lx _) (ly _) q)]
    constructor
    · intro h
      revert h
      cases cf F (bk (x ((t : Int) - 1))) (x t) (y t) <;> cases cf F (x 0) (bk (x (-1))) (bk (y (-1))) <;> cases fl <;> decide
    · intro h
      rw [h]
  rw [Bool.eq_iff_iff, alX_iff, alX_iff]
  constructor
  · intro h
    have a : ∀ k : Nat, k < t → x k = y k := fun k hk => I.inj _ (lx _) _ (ly _) (h.a k hk)
    have e1 : x (-1) ≠ y (-1) := fun q => h.e1 (congrArg r q)
    have e2 : x t ≠ y t := fun q => h.e2 (congrArg r q)
    exact ⟨a, e1, e2, (key a e1 e2).mp h.c⟩
  · intro h
    exact ⟨fun k hk => congrArg r (h.a k hk), fun q => h.e1 (I.inj _ (lx _) _ (ly _) q), fun q => h.e2 (I.inj _ (lx _) _ (ly _) q), (key h.a h.e1 h.e2).mpr h.c⟩
theorem beX_inv {F' : Wd} {r : Nat → Nat} {fl : Bool} (sf : Sf F n) (I : Inv F F' n r fl) (lx : ∀ k, isLK n (x k)) (ly : ∀ k, isLK n (y k)) : beX F' (fun k => r (x k)) (fun k => r (y k)) = beX F x y := by
  have m : ∀ {c}, isLK n c → c ∈ F := fun hc => (sf.mem _).mpr hc
  have b6 : ∀ {c}, isLK n c → isLK n (bk c) := fun hc => bk_isLK sf.six hc
  unfold beX
  rw [← I.bk_ _ (lx _), ← I.bk_ _ (ly _)]
  have ne : ∀ {c d}, isLK n c → isLK n d → (r c ≠ r d ↔ c ≠ d) := fun {c d} hc hd => ⟨fun h q => h (congrArg r q), fun h q => h (I.inj c hc d hd q)⟩
  have e : four (r (bk (x 0))) (r (x 1)) (r (bk (y 0))) (r (y 1)) = four (bk (x 0)) (x 1) (bk (y 0)) (y 1) := by
    rw [Bool.eq_iff_iff, four_iff, four_iff, ne (b6 (lx 0)) (lx 1), ne (b6 (lx 0)) (b6 (ly 0)), ne (b6 (lx 0)) (ly 1), ne (lx 1) (b6 (ly 0)), ne (lx 1) (ly 1), ne (b6 (ly 0)) (ly 1)]
  rw [e]
  cases hq : four (bk (x 0)) (x 1) (bk (y 0)) (y 1) with
  | false => rfl
  | true =>
    obtain ⟨h1, h2, h3, h4, h5, h6⟩ := four_iff.mp hq
    unfold crs
    rw [I.cf_ _ _ _ (m (b6 (lx 0))) (m (b6 (ly 0))) (m (lx 1)) h2.symm h1.symm h4.symm, I.cf_ _ _ _ (m (b6 (lx 0))) (m (ly 1)) (m (lx 1)) h3.symm h1.symm h5.symm]
    cases cf F (bk (x 0)) (bk (y 0)) (x 1) <;> cases cf F (bk (x 0)) (y 1) (x 1) <;> cases fl <;> rfl
end
end RW
set_option Elab.async false
set_option linter.all false
set_option maxRecDepth 100000
set_option maxHeartbeats 4000000
namespace RW
open PySem

/-! ### what is asked of a surface told otherwise -/
theorem flat_congr {α : Type} {g h : Nat → List α} : ∀ {n : Nat}, (∀ k, k < n → g k = h k) → (List.range n).flatMap g = (List.range n).flatMap h
  | 0, _ => rfl
  | n + 1, e => by
    rw [flat_snoc, flat_snoc, flat_congr fun k hk => e k (by omega), e n (by omega)]
/-- a way told otherwise -/
structure To (r : Nat → Nat) (u u' : Wd) : Prop where
  len : u'.length = u.length
  at_ : ∀ k, atw u' k = r (atw u k)
theorem To.ne {r : Nat → Nat} {u u' : Wd} (h : To r u u') (hu : u ≠ []) : u' ≠ [] := fun e => by
  have := h.len
  have : 0 < u.length := List.length_pos_iff.mpr hu
  rw [e, List.length_nil] at *
  omega
section
variable {F F' : Wd} {n : Nat} {r : Nat → Nat} {fl : Bool} {u u' v v' : Wd}
theorem Way.l (h : Way n u) (p k : Int) : isLK n (vx u p k) := h.let_ _ (atw_get h.ne _).2
theorem Way.rn (h : Way n u) (p k : Int) : vx u p (k + 1) ≠ bk (vx u p k) := by
  unfold vx
  rw [show p + (k + 1) = p + k + 1 by omega]
  exact h.rnd _
theorem To.vx (h : To r u u') (p : Int) : vx u' p = fun k => r (RW.vx u p k) := funext fun k => h.at_ _
theorem To.bw (I : Inv F F' n r fl) (w : Way n u) (h : To r u u') : To r (bw u) (bw u') := by
  refine ⟨by rw [bw_len, bw_len, h.len], fun k => ?_⟩
  rw [atw_bw w.ne, atw_bw (h.ne w.ne), h.at_, I.bk_ _ (w.let_ _ (atw_get w.ne _).2)]
theorem runA_inv (I : Inv F F' n r fl) (wu : Way n u) (wv : Way n v) (hu : To r u u') (hv : To r v v') (p q : Int) : runA u' v' p q = runA u v p q := by
  unfold runA
  rw [hu.len, hv.len]
  congr 1
  funext k
  unfold fA
  rw [hu.at_, hv.at_, Bool.eq_iff_iff, beq_iff_eq, beq_iff_eq]
  exact ⟨fun e => I.inj _ (wu.let_ _ (atw_get wu.ne _).2) _ (wv.let_ _ (atw_get wv.ne _).2) e, fun e => by rw [e]⟩
theorem lkD_inv (sf : Sf F n) (I : Inv F F' n r fl) (wu : Way n u) (wv : Way n v) (hu : To r u u') (hv : To r v v') (i p j q : Nat) : lkD F' u' v' i p j q = lkD F u v i p j q := by
  have wb := wv.back sf.six
  have hb := hv.bw I wv
  have eA := runA_inv I wu wv hu hv (p : Int) (q : Int)
  have eG : runG u' v' p q = runG u v p q := by
    rw [runG_v (hv.ne wv.ne), runG_v wv.ne]
    exact runA_inv I wu wb hu hb _ _
  unfold lkD lkOf
  rw [eA, eG]
  congr 1
  refine List.filter_congr fun l hl => ?_
  simp only [List.mem_cons, List.not_mem_nil, or_false] at hl
  rcases hl with rfl | rfl | rfl
  · show (ltS i p j q && besC F' u' v' p q) = (ltS i p j q && besC F u v p q)
    rw [besC_v, besC_v, hu.vx, hv.vx, beX_inv sf I (wu.l _) (wv.l _)]
  · show (decide (0 < runA u v p q) && (ltS i p j q && aloC F' u' v' p q (runA u v p q))) = (decide (0 < runA u v p q) && (ltS i p j q && aloC F u v p q (runA u v p q)))
    by_cases h : 0 < runA u v p q
    · rw [aloC_v, aloC_v, hu.vx, hv.vx, alX_inv sf I (wu.l _) (wv.l _) (wu.rn _) (wv.rn _) h]
    · rw [decide_eq_false h, Bool.false_and, Bool.false_and]
  · show (decide (0 < runG u v p q) && (ltA i p j q v'.length (runG u v p q) && agaC F' u' v' p q (runG u v p q))) = (decide (0 < runG u v p q) && (ltA i p j q v.length (runG u v p q) && agaC F u v p q (runG u v p q)))
    rw [hv.len]
    by_cases h : 0 < runG u v p q
    · have l' : ∀ c ∈ v', isLK 6 c ∨ True := fun _ _ => .inr trivial
      have ev : agaC F' u' v' p q (runG u v p q) = alX F' (vx u' p) (vx (bw v') (-1 - q)) (runG u v p q) := by
        -- the back of a back, by what r does
        unfold alX
        have hv' := hv.ne wv.ne
        have e : (fun k : Nat => vx (bw v') (-1 - (q : Int)) (k : Int)) = fun k : Nat => bk (atw v' ((q : Int) - k)) := funext fun k => vx_bw hv' q k
        have lb : bk (bk (atw v' ((q : Int) + 1))) = atw v' ((q : Int) + 1) := by
          have l1 := wv.let_ _ (atw_get wv.ne ((q : Int) + 1)).2
          rw [hv.at_, ← I.bk_ _ l1, ← I.bk_ _ (bk_isLK sf.six l1), bk_bk sf.six l1]
        rw [e, vx_bw hv', vx_bw hv', show (q : Int) - -1 = (q : Int) + 1 by omega, lb]
        unfold agaC vx
        rw [Int.add_zero]
        rfl
      rw [ev, agaC_v sf.six wv.ne wv.let_, hu.vx, hb.vx, alX_inv sf I (wu.l _) (wb.l _) (wu.rn _) (wb.rn _) h]
    · rw [decide_eq_false h, Bool.false_and, Bool.false_and]
theorem linksD_inv (sf : Sf F n) (I : Inv F F' n r fl) (wu : Way n u) (wv : Way n v) (hu : To r u u') (hv : To r v v') (i j : Nat) : linksD F' u' v' i j = linksD F u v i j := by
  unfold linksD rowD
  rw [hu.len, hv.len]
  exact flat_congr fun p _ => flat_congr fun q _ => lkD_inv sf I wu wv hu hv i p j q
end
theorem askD_inv {F F' : Wd} {n : Nat} {r : Nat → Nat} {fl : Bool} {W : List Wd} {g : Wd → Wd} (sf : Sf F n) (I : Inv F F' n r fl) (mW : ∀ u ∈ W, Way n u) (h : ∀ u ∈ W, To r u (g u)) : askD F' (W.map g) = askD F W := by
  have at_ : ∀ i, i < W.length → (W.map g).getD i [] = g (W.getD i []) ∧ W.getD i [] ∈ W := fun i hi => by
    rw [List.getD_eq_getElem?_getD, List.getD_eq_getElem?_getD, List.getElem?_map, List.getElem?_eq_getElem hi]
    exact ⟨rfl, List.getElem_mem hi⟩
  unfold askD
  rw [List.length_map]
  refine flat_congr fun i hi => ?_
  unfold askRow
  rw [List.length_map]
  refine List.map_congr_left fun m hm => ?_
  have hm := List.mem_range.mp hm
  obtain ⟨e1, m1⟩ := at_ i hi
  obtain ⟨e2, m2⟩ := at_ (i + m) (by omega)
  rw [e1, e2, linksD_inv sf I (mW _ m1) (mW _ m2) (h _ m1) (h _ m2)]
theorem To.same (u : Wd) : To (fun c => c) u u := ⟨rfl, fun _ => rfl⟩
theorem law_rot (F : Wd) (n : Nat) (W : List Wd) (a : Nat) (sf : Sf F n) (mW : ∀ u ∈ W, Way n u) (ha : a ≤ F.length) : askD (rot F a) W = askD F W := by
  have I : Inv F (rot F a) n (fun c => c) false := ⟨fun b o t hb ho ht _ _ _ => by rw [cf_rot sf.nd ha hb ho ht]; cases cf F b o t <;> rfl, fun _ _ => rfl, fun _ _ _ _ h => h⟩
  have := askD_inv (g := id) sf I mW fun u _ => To.same u
  rw [List.map_id] at this
  exact this
theorem law_rev (F : Wd) (n : Nat) (W : List Wd) (sf : Sf F n) (mW : ∀ u ∈ W, Way n u) : askD F.reverse W = askD F W := by
  have I : Inv F F.reverse n (fun c => c) true := ⟨fun b o t hb ho ht h1 h2 h3 => by rw [cf_rev sf.nd hb ho ht h1 h2 h3]; cases cf F b o t <;> rfl, fun _ _ => rfl, fun _ _ _ _ h => h⟩
  have := askD_inv (g := id) sf I mW fun u _ => To.same u
  rw [List.map_id] at this
  exact this
theorem law_ren (F : Wd) (n : Nat) (W : List Wd) (r : Nat → Nat) (sf : Sf F n) (mW : ∀ u ∈ W, Way n u) (R : Ren n r) : askD (F.map r) (W.map fun u => u.map r) = askD F W := by
  have I : Inv F (F.map r) n r false := ⟨fun b o t hb ho ht _ _ _ => by rw [cf_map (sf.inj R) sf.nd hb ho ht]; cases cf F b o t <;> rfl, R.bk_, R.inj⟩
  exact askD_inv sf I mW fun u hu => ⟨by rw [List.length_map], fun k => atw_map (mW u hu).ne k⟩
end RW
set_option Elab.async false
set_option linter.all false
set_option maxRecDepth 100000
set_option maxHeartbeats 4000000
namespace RW
open PySem

/-! ### sums of ints -/
theorem sT_congr {n : Nat} {f g : Nat → Int} (h : ∀ k, k < n → f k = g k) : sumTo n f = sumTo n g := by
  induction n with
  | zero => rfl
  | succ n ih =>
    show sumTo n f + f n = sumTo n g + g n
    rw [ih fun k hk => h k (by omega), h n (by omega)]
theorem sT_zero {n : Nat} {f : Nat → Int} (h : ∀ k, k < n → f k = 0) : sumTo n f = 0 := by
  induction n with
  | zero => rfl
  | succ n ih =>
    show sumTo n f + f n = 0
    rw [ih fun k hk => h k (by omega), h n (by omega)]
    rfl
theorem sT_neg (n : Nat) (f : Nat → Int) : sumTo n (fun k => -f k) = -sumTo n f := by
  induction n with
  | zero => rfl
  | succ n ih =>
    show sumTo n (fun k => -f k) + -f n = -(sumTo n f + f n)
    rw [ih]
    omega
theorem sT_add (n : Nat) (f g : Nat → Int) : sumTo n (fun k => f k + g k) = sumTo n f + sumTo n g := by
  induction n with
  | zero => rfl
  | succ n ih =>
    show sumTo n (fun k => f k + g k) + (f n + g n) = (sumTo n f + f n) + (sumTo n g + g n)
    rw [ih]
    omega
theorem sT_comm (n m : Nat) (f : Nat → Nat → Int) : sumTo n (fun p => sumTo m (f p)) = sumTo m (fun q => sumTo n (fun p => f p q)) := by
  induction n with
  | zero => exact (sT_zero fun _ _ => rfl).symm
  | succ n ih =>
    show sumTo n (fun p => sumTo m (f p)) + sumTo m (f n) = _
    rw [ih, ← sT_add]
    rfl
theorem sT_skip {a : Nat} {f : Nat → Int} (h : ∀ k, k < a → f k = 0) : ∀ m, sumTo (a + m) f = sumTo m fun k => f (a + k)
  | 0 => sT_zero h
  | m + 1 => by
    show sumTo (a + m) f + f (a + m) = sumTo m (fun k => f (a + k)) + f (a + m)
    rw [sT_skip h m]
theorem halfZ {n : Nat} {h : Nat → Nat → Int} (hs : ∀ p q, p < n → q < n → h p q = h q p) (h0 : ∀ p, p < n → h p p = 0) : 2 * sumTo n (fun p => sumTo n fun q => if p < q then h p q else 0) = sumTo n fun p => sumTo n fun q => h p q := by
  have e1 : (sumTo n fun p => sumTo n fun q => h p q) = sumTo n fun p => sumTo n fun q => (if p < q then h p q else 0) + (if q < p then h p q else 0) :=
    sT_congr fun p hp => sT_congr fun q hq => by
      rcases Nat.lt_trichotomy p q with r | r | r
      · rw [if_pos r, if_neg (by omega), Int.add_zero]
      · subst r
        rw [if_neg (by omega), h0 p hp]
        rfl
      · rw [if_neg (by omega), if_pos r, Int.zero_add]
  have e2 : (sumTo n fun p => sumTo n fun q => if q < p then h p q else 0) = sumTo n fun p => sumTo n fun q => if p < q then h p q else 0 := by
    rw [sT_comm]
    exact sT_congr fun p hp => sT_congr fun q hq => by
      show (if p < q then h q p else 0) = _
      rw [hs q p hq hp]
  have e3 : (sumTo n fun p => sumTo n fun q => (if p < q then h p q else 0) + (if q < p then h p q else 0)) = (sumTo n fun p => sumTo n fun q => if p < q then h p q else 0) + sumTo n fun p => sumTo n fun q => if q < p then h p q else 0 := by
    rw [← sT_add]
    exact sT_congr fun p _ => sT_add n _ _
  rw [e1, e3, e2]
  omega
def sL (l : List Int) : Int := l.foldr (fun a b => a + b) 0
theorem sL_perm {l l' : List Int} (h : l.Perm l') : sL l = sL l' := by
  induction h with
  | nil => rfl
  | cons a _ ih =>
    show a + sL _ = a + sL _
    rw [ih]
  | swap a b l =>
    show b + (a + sL l) = a + (b + sL l)
    omega
  | trans _ _ h1 h2 => exact h1.trans h2
theorem sL_snoc (a : Int) : ∀ l : List Int, sL (l ++ [a]) = sL l + a
  | [] => by
    show a + 0 = 0 + a
    omega
  | b :: l => by
    show b + sL (l ++ [a]) = b + sL l + a
    rw [sL_snoc a l]
    omega
theorem sT_list (f : Nat → Int) : ∀ n, sumTo n f = sL ((List.range n).map f)
  | 0 => rfl
  | n + 1 => by
    rw [List.range_succ, List.map_append]
    show sumTo n f + f n = sL (_ ++ [f n])
    rw [sL_snoc, sT_list f n]
theorem nd_perm {B : Wd} : ∀ {A : Wd}, A.Nodup → (∀ c ∈ A, c ∈ B) → B.length ≤ A.length → A.Perm B := by
  intro A
  induction A generalizing B with
  | nil =>
    intro _ _ hl
    rw [List.eq_nil_of_length_eq_zero (Nat.le_zero.mp hl)]
  | cons a A ih =>
    intro nd sub hl
    have nd2 := List.nodup_cons.mp nd
    have ha := sub a List.mem_cons_self
    have := ih (B := B.erase a) nd2.2 (fun c hc => (List.mem_erase_of_ne (fun e : c = a => nd2.1 (by rw [← e]; exact hc))).mpr (sub c (List.mem_cons_of_mem _ hc))) (by
      rw [List.length_erase_of_mem ha]
      rw [List.length_cons] at hl
      omega)
    exact (List.Perm.cons a this).trans (List.perm_cons_erase ha).symm
theorem sT_perm {n : Nat} {f : Nat → Int} {g : Nat → Nat} (hm : ∀ x, x < n → g x < n) (hi : ∀ x y, x < n → y < n → g x = g y → x = y) : sumTo n (fun x => f (g x)) = sumTo n f := by
  rw [sT_list, sT_list]
  have p : ((List.range n).map g).Perm (List.range n) := nd_perm (map_nd (fun c hc d hd e => hi c d (List.mem_range.mp hc) (List.mem_range.mp hd) e) List.nodup_range) (fun c hc => by
    obtain ⟨x, hx, e⟩ := List.mem_map.mp hc
    rw [← e]
    exact List.mem_range.mpr (hm x (List.mem_range.mp hx))) (by rw [List.length_map]; exact Nat.le_refl _)
  have := p.map f
  rw [List.map_map] at this
  exact sL_perm this

/-! ### the balance -/
def Tm (F u v : Wd) (a b : Nat) : Int := side F a (bk a) b (bk b) * (cnt u a * cnt v b - cnt u b * cnt v a)
theorem balI_tri (F u v : Wd) (n : Nat) : balI F n u v = sumTo n fun x => sumTo n fun y => if x < y then Tm F u v (97 + x) (97 + y) else 0 := by
  unfold balI
  refine sT_congr fun x hx => ?_
  unfold rowI
  have := sT_skip (a := x + 1) (f := fun y => if x < y then Tm F u v (97 + x) (97 + y) else 0) (fun k hk => if_neg (by omega)) (n - (x + 1))
  rw [show x + 1 + (n - (x + 1)) = n by omega] at this
  rw [this]
  refine sT_congr fun m _ => ?_
  show termI F u v x (x + 1 + m) = if x < x + 1 + m then Tm F u v (97 + x) (97 + (x + 1 + m)) else 0
  rw [if_pos (by omega)]
  rfl
section
variable {F u v : Wd} {n a b : Nat}
/-- letters of two pairs -/
structure Two (n a b : Nat) : Prop where
  la : isLK n a
  lb : isLK n b
  ne : low a ≠ low b
theorem low_eq {c d : Nat} (h6 : n ≤ 6) (hc : isLK n c) (hd : isLK n d) : low c = low d ↔ c = d ∨ c = bk d := by
  unfold isLK at hc hd
  unfold low bk
  constructor
  · intro h
    repeat' split at h
    all_goals (repeat' split)
    all_goals omega
  · intro h
    repeat' split at h
    all_goals (repeat' split)
    all_goals omega
theorem Two.six (h : Two n a b) (h6 : n ≤ 6) : a ≠ bk a ∧ a ≠ b ∧ a ≠ bk b ∧ bk a ≠ b ∧ bk a ≠ bk b ∧ b ≠ bk b := by
  have e := h.ne
  refine ⟨fun q => bk_ne a q.symm, fun q => e (by rw [q]), fun q => e (by rw [q, low_bk h6 h.lb]), fun q => e (by rw [← q, low_bk h6 h.la]), fun q => e ?_, fun q => bk_ne b q.symm⟩
  have := congrArg low q
  rw [low_bk h6 h.la, low_bk h6 h.lb] at this
  exact this
theorem cnt_bk (h6 : n ≤ 6) (ha : isLK n a) : cnt u (bk a) = -cnt u a := by
  unfold cnt
  rw [bk_bk h6 ha]
  omega
theorem Two.bk1 (h : Two n a b) (h6 : n ≤ 6) : Two n (bk a) b := ⟨bk_isLK h6 h.la, h.lb, by rw [low_bk h6 h.la]; exact h.ne⟩
theorem Two.swap (h : Two n a b) : Two n b a := ⟨h.lb, h.la, h.ne.symm⟩
theorem Tm_bk (sf : Sf F n) (h : Two n a b) : Tm F u v (bk a) b = Tm F u v a b := by
  have m : ∀ {c}, isLK n c → c ∈ F := fun hc => (sf.mem _).mpr hc
  have b6 : ∀ {c}, isLK n c → isLK n (bk c) := fun hc => bk_isLK sf.six hc
  obtain ⟨h1, h2, h3, h4, h5, h6⟩ := h.six sf.six
  unfold Tm
  rw [bk_bk sf.six h.la, side_xback (m h.la) (m (b6 h.la)) (m h.lb) (m (b6 h.lb)) h1 h2 h3 h4 h5 h6, cnt_bk sf.six h.la, cnt_bk sf.six h.la]
  rw [Int.neg_mul, Int.neg_mul, Int.mul_neg, ← Int.mul_neg]
  congr 1
  omega
theorem Tm_swap (sf : Sf F n) (h : Two n a b) : Tm F u v b a = Tm F u v a b := by
  have m : ∀ {c}, isLK n c → c ∈ F := fun hc => (sf.mem _).mpr hc
  have b6 : ∀ {c}, isLK n c → isLK n (bk c) := fun hc => bk_isLK sf.six hc
  obtain ⟨h1, h2, h3, h4, h5, h6⟩ := h.six sf.six
  unfold Tm
  rw [side_swap (m h.la) (m (b6 h.la)) (m h.lb) (m (b6 h.lb)) h1 h2 h3 h4 h5 h6, Int.neg_mul, ← Int.mul_neg]
  congr 1
  omega
theorem Tm_low (sf : Sf F n) (h : Two n a b) : Tm F u v (low a) (low b) = Tm F u v a b := by
  have one : ∀ {a b : Nat}, Two n a b → Tm F u v (low a) b = Tm F u v a b ∧ Two n (low a) b := fun {a b} h => by
    have : low a = a ∨ low a = bk a := by
      unfold low bk
      split
      · exact .inl rfl
      · exact .inr rfl
    rcases this with e | e
    · rw [e]
      exact ⟨rfl, h⟩
    · rw [e]
      exact ⟨Tm_bk sf h, h.bk1 sf.six⟩
  obtain ⟨e1, t1⟩ := one h
  obtain ⟨e2, t2⟩ := one t1.swap
  rw [← e1, ← Tm_swap sf t1, ← e2, Tm_swap sf t2.swap]
theorem cnt_map {r : Nat → Nat} (R : Ren n r) (h6 : n ≤ 6) (hu : ∀ c ∈ u, isLK n c) (ha : isLK n a) : cnt (u.map r) (r a) = cnt u a := by
  have key : ∀ {c : Nat}, isLK n c → ∀ {l : Wd}, (∀ d ∈ l, isLK n d) → (l.map r).count (r c) = l.count c := by
    intro c hc l
    induction l with
    | nil => intro _; rfl
    | cons d l ih =>
      intro hl
      rw [List.map_cons, List.count_cons, List.count_cons, ih fun x hx => hl x (List.mem_cons_of_mem _ hx)]
      congr 1
      have hd := hl d List.mem_cons_self
      by_cases q : d = c
      · subst q
        rw [beq_self_eq_true, beq_self_eq_true]
      · have q2 : r d ≠ r c := fun e => q (R.inj _ hd _ hc e)
        rw [beq_eq_false_iff_ne.mpr q, beq_eq_false_iff_ne.mpr q2]
  unfold cnt
  rw [← R.bk_ a ha, key ha hu, key (bk_isLK h6 ha) hu]
theorem Tm_ren {r : Nat → Nat} (sf : Sf F n) (R : Ren n r) (hu : ∀ c ∈ u, isLK n c) (hv : ∀ c ∈ v, isLK n c) (ha : isLK n a) (hb : isLK n b) : Tm (F.map r) (u.map r) (v.map r) (r a) (r b) = Tm F u v a b := by
  have m : ∀ {c}, isLK n c → c ∈ F := fun hc => (sf.mem _).mpr hc
  have b6 : ∀ {c}, isLK n c → isLK n (bk c) := fun hc => bk_isLK sf.six hc
  unfold Tm
  rw [← R.bk_ a ha, ← R.bk_ b hb, side_map (sf.inj R) sf.nd (m ha) (m (b6 ha)) (m hb) (m (b6 hb)), cnt_map R sf.six hu ha, cnt_map R sf.six hu hb, cnt_map R sf.six hv ha, cnt_map R sf.six hv hb]
end
theorem lk_small {n x : Nat} (h : x < n) : isLK n (97 + x) := by
  unfold isLK
  omega
theorem two_small {n x y : Nat} (hx : x < n) (hy : y < n) (h : x ≠ y) : Two n (97 + x) (97 + y) := ⟨lk_small hx, lk_small hy, by
  unfold low
  rw [if_pos (by omega), if_pos (by omega)]
  omega⟩
theorem law_brev (F : Wd) (n : Nat) (u v : Wd) (sf : Sf F n) (_ : Way n u) (_ : Way n v) : balI F.reverse n u v = 0 - balI F n u v := by
  rw [balI_tri, balI_tri, Int.zero_sub, ← sT_neg]
  refine sT_congr fun x hx => ?_
  rw [← sT_neg]
  refine sT_congr fun y hy => ?_
  by_cases h : x < y
  · rw [if_pos h, if_pos h]
    have m : ∀ {c}, isLK n c → c ∈ F := fun hc => (sf.mem _).mpr hc
    have b6 : ∀ {c}, isLK n c → isLK n (bk c) := fun hc => bk_isLK sf.six hc
    have t := two_small hx hy (by omega)
    obtain ⟨h1, h2, h3, h4, h5, h6⟩ := t.six sf.six
    unfold Tm
    rw [side_rev sf.nd (m t.la) (m (b6 t.la)) (m t.lb) (m (b6 t.lb)) h1 h2 h3 h4 h5 h6, Int.neg_mul]
  · rw [if_neg h, if_neg h]
    rfl
theorem law_bren (F : Wd) (n : Nat) (u v : Wd) (r : Nat → Nat) (sf : Sf F n) (wu : Way n u) (wv : Way n v) (R : Ren n r) : balI (F.map r) n (u.map r) (v.map r) = balI F n u v := by
  have sfR := sf.ren R
  have h6 := sf.six
  let g : Nat → Nat := fun x => low (r (97 + x)) - 97
  have lg : ∀ x, x < n → low (r (97 + x)) = 97 + g x ∧ g x < n := fun x hx => by
    have := R.is_ _ (lk_small hx)
    unfold isLK at this
    show low _ = 97 + (low (r (97 + x)) - 97) ∧ low (r (97 + x)) - 97 < n
    unfold low
    split <;> omega
  have gi : ∀ x y, x < n → y < n → g x = g y → x = y := fun x y hx hy e => by
    have e2 : low (r (97 + x)) = low (r (97 + y)) := by rw [(lg x hx).1, (lg y hy).1, e]
    have l1 := R.is_ _ (lk_small hx)
    have l2 := R.is_ _ (lk_small hy)
    rcases (low_eq h6 l1 l2).mp e2 with q | q
    · have := R.inj _ (lk_small hx) _ (lk_small hy) q
      omega
    · rw [← R.bk_ _ (lk_small hy)] at q
      have := R.inj _ (lk_small hx) _ (bk_isLK h6 (lk_small hy)) q
      unfold bk at this
      rw [if_pos (by omega)] at this
      omega
  let G : Nat → Nat → Int := fun x y => if x = y then 0 else Tm (F.map r) (u.map r) (v.map r) (97 + x) (97 + y)
  let D : Nat → Nat → Int := fun x y => if x = y then 0 else Tm F u v (97 + x) (97 + y)
  have gs : ∀ p q, p < n → q < n → G p q = G q p := fun p q hp hq => by
    show (if p = q then 0 else _) = if q = p then 0 else _
    by_cases e : p = q
    · rw [if_pos e, if_pos e.symm]
    · rw [if_neg e, if_neg fun z => e z.symm]
      exact (Tm_swap sfR (two_small hp hq e)).symm
  have ds : ∀ p q, p < n → q < n → D p q = D q p := fun p q hp hq => by
    show (if p = q then 0 else _) = if q = p then 0 else _
    by_cases e : p = q
    · rw [if_pos e, if_pos e.symm]
    · rw [if_neg e, if_neg fun z => e z.symm]
      exact (Tm_swap sf (two_small hp hq e)).symm
  have dg : ∀ x y, x < n → y < n → D x y = G (g x) (g y) := fun x y hx hy => by
    show (if x = y then 0 else _) = if g x = g y then 0 else _
    by_cases e : x = y
    · rw [if_pos e, if_pos (by rw [e])]
    · rw [if_neg e, if_neg fun z => e (gi x y hx hy z), ← (lg x hx).1, ← (lg y hy).1]
      have l1 := R.is_ _ (lk_small hx)
      have l2 := R.is_ _ (lk_small hy)
      rw [Tm_low sfR ⟨l1, l2, fun z => e (gi x y hx hy (by have := (lg x hx).1; have := (lg y hy).1; omega))⟩]
      exact (Tm_ren sf R wu.let_ wv.let_ (lk_small hx) (lk_small hy)).symm
  have e1 : 2 * balI (F.map r) n (u.map r) (v.map r) = sumTo n fun x => sumTo n fun y => G x y := by
    rw [← halfZ gs fun p _ => if_pos rfl, balI_tri]
    congr 1
    exact sT_congr fun x _ => sT_congr fun y _ => by
      by_cases e : x < y
      · rw [if_pos e, if_pos e]
        exact (if_neg (by omega)).symm
      · rw [if_neg e, if_neg e]
  have e2 : 2 * balI F n u v = sumTo n fun x => sumTo n fun y => D x y := by
    rw [← halfZ ds fun p _ => if_pos rfl, balI_tri]
    congr 1
    exact sT_congr fun x _ => sT_congr fun y _ => by
      by_cases e : x < y
      · rw [if_pos e, if_pos e]
        exact (if_neg (by omega)).symm
      · rw [if_neg e, if_neg e]
  have e3 : (sumTo n fun x => sumTo n fun y => D x y) = sumTo n fun x => sumTo n fun y => G x y := by
    have : (sumTo n fun x => sumTo n fun y => D x y) = sumTo n fun x => sumTo n fun y => G (g x) y := sT_congr fun x hx => by
      rw [← sT_perm (f := fun y => G (g x) y) (fun x hx => (lg x hx).2) gi]
      exact sT_congr fun y hy => dg x y hx hy
    rw [this]
    exact sT_perm (f := fun x => sumTo n fun y => G x y) (fun x hx => (lg x hx).2) gi
  omega
end RW
set_option Elab.async false
set_option linter.all false
set_option maxRecDepth 100000
set_option maxHeartbeats 4000000
namespace RW
open PySem

/-! ### how many links -/
def cntL (F u v : Wd) (i j : Nat) : Nat := (linksD F u v i j).length
theorem flat_lenE {α : Type} (g : Nat → List α) : ∀ n, ((List.range n).flatMap g).length = sN n fun k => (g k).length
  | 0 => rfl
  | n + 1 => by
    rw [flat_snoc, List.length_append, flat_lenE g n]
    rfl
theorem three {α : Type} (a b c : α) (f : α → Bool) : ([a, b, c].filter f).length = (f a).toNat + (f b).toNat + (f c).toNat := by
  cases h1 : f a <;> cases h2 : f b <;> cases h3 : f c <;> simp [List.filter_cons, h1, h2, h3]
section
variable {F u v : Wd} {n t : Nat} {p q : Int}
theorem lk_len (F u v : Wd) (i p j q : Nat) : (lkD F u v i p j q).length = (ltS i p j q && besC F u v p q).toNat + (sN (u.length + v.length) fun t => (ltS i p j q && aloC F u v p q (t + 1)).toNat) + sN (u.length + v.length) fun t => (ltA i p j q v.length (t + 1) && agaC F u v p q (t + 1)).toNat := by
  unfold lkD lkOf
  rw [List.length_map, three]
  have eA := run_sum (f := fA u v p q) (T := u.length + v.length) (g := fun t => ltS i p j q && aloC F u v p q t) fun t h => by
    have h2 := (Bool.and_eq_true_iff.mp h).2
    rw [aloC_v] at h2
    have P := alX_iff.mp h2
    refine ⟨fun k hk => ?_, ?_⟩
    · unfold fA
      rw [beq_iff_eq]
      exact P.a k hk
    · unfold fA
      rw [beq_eq_false_iff_ne]
      exact P.e2
  have eG := run_sum (f := fG u v p q) (T := u.length + v.length) (g := fun t => ltA i p j q v.length t && agaC F u v p q t) fun t h => by
    have h2 := (Bool.and_eq_true_iff.mp h).2
    unfold agaC at h2
    rw [Bool.and_eq_true, Bool.and_eq_true, Bool.and_eq_true, agr_iff, Bool.not_eq_true', Bool.not_eq_true', beq_eq_false_iff_ne, beq_eq_false_iff_ne] at h2
    refine ⟨fun k hk => ?_, ?_⟩
    · unfold fG
      rw [beq_iff_eq]
      exact h2.1 k hk
    · unfold fG
      rw [beq_eq_false_iff_ne]
      exact h2.2.2.1
  rw [← eA, ← eG]
  rfl
theorem exch (n m T : Nat) (f : Nat → Nat → Nat → Nat) : (sN n fun p => sN m fun q => sN T fun t => f p q t) = sN T fun t => sN n fun p => sN m fun q => f p q t := by
  have : (sN n fun p => sN m fun q => sN T fun t => f p q t) = sN n fun p => sN T fun t => sN m fun q => f p q t := sN_congr fun p _ => sN_comm m T fun q t => f p q t
  rw [this]
  exact sN_comm n T fun p t => sN m fun q => f p q t
theorem cntL_eq (F u v : Wd) (i j : Nat) : cntL F u v i j = (sN u.length fun p => sN v.length fun q => (ltS i p j q && besC F u v p q).toNat) + (sN (u.length + v.length) fun t => sN u.length fun p => sN v.length fun q => (ltS i p j q && aloC F u v p q (t + 1)).toNat) +
    sN (u.length + v.length) fun t => sN u.length fun p => sN v.length fun q => (ltA i p j q v.length (t + 1) && agaC F u v p q (t + 1)).toNat := by
  unfold cntL linksD rowD
  rw [flat_lenE]
  have e : (sN u.length fun p => ((List.range v.length).flatMap fun q => lkD F u v i p j q).length) = sN u.length fun p => sN v.length fun q => (ltS i p j q && besC F u v p q).toNat + (sN (u.length + v.length) fun t => (ltS i p j q && aloC F u v p q (t + 1)).toNat) + sN (u.length + v.length) fun t => (ltA i p j q v.length (t + 1) && agaC F u v p q (t + 1)).toNat :=
    sN_congr fun p _ => by
      rw [flat_lenE]
      exact sN_congr fun q _ => lk_len F u v i p j q
  have x1 : (sN u.length fun p => sN v.length fun q => sN (u.length + v.length) fun t => (ltS i p j q && aloC F u v p q (t + 1)).toNat) = sN (u.length + v.length) fun t => sN u.length fun p => sN v.length fun q => (ltS i p j q && aloC F u v p q (t + 1)).toNat :=
    exch u.length v.length (u.length + v.length) fun p q t => (ltS i p j q && aloC F u v p q (t + 1)).toNat
  have x2 : (sN u.length fun p => sN v.length fun q => sN (u.length + v.length) fun t => (ltA i p j q v.length (t + 1) && agaC F u v p q (t + 1)).toNat) = sN (u.length + v.length) fun t => sN u.length fun p => sN v.length fun q => (ltA i p j q v.length (t + 1) && agaC F u v p q (t + 1)).toNat :=
    exch u.length v.length (u.length + v.length) fun p q t => (ltA i p j q v.length (t + 1) && agaC F u v p q (t + 1)).toNat
  rw [e, ← x1, ← x2, ← sN_add, ← sN_add]
  exact sN_congr fun p _ => by
    rw [← sN_add, ← sN_add]
def bI (F u v : Wd) (p q : Int) : Nat := (besC F u v p q).toNat
def aI (F u v : Wd) (t : Nat) (p q : Int) : Nat := (aloC F u v p q t).toNat
def gI (F u v : Wd) (t : Nat) (p q : Int) : Nat := (agaC F u v p q t).toNat
def Bt (F u v : Wd) : Nat := S2 u.length v.length (bI F u v) + (sN (u.length + v.length) fun t => S2 u.length v.length (aI F u v (t + 1))) + sN (u.length + v.length) fun t => S2 u.length v.length (gI F u v (t + 1))
theorem cnt_lt (F u v : Wd) {i j : Nat} (h : i < j) : cntL F u v i j = Bt F u v := by
  have e1 : ∀ p q, ltS i p j q = true := fun p q => by
    unfold ltS
    rw [if_neg (by omega)]
    exact decide_eq_true h
  have e2 : ∀ p q m t, ltA i p j q m t = true := fun p q m t => e1 _ _
  rw [cntL_eq]
  simp only [e1, e2, Bool.true_and]
  rfl
/-! ### what moves do -/
theorem atw_per (u : Wd) (k : Int) : atw u (k + (u.length : Int)) = atw u k := by
  unfold atw
  rw [Int.add_emod_right]
theorem vx_per (u : Wd) (p : Int) : vx u (p + (u.length : Int)) = vx u p := funext fun k => by
  unfold vx
  rw [show p + (u.length : Int) + k = p + k + (u.length : Int) by omega]
  exact atw_per u _
theorem bw_bw (hn : n ≤ 6) (h : ∀ c ∈ u, isLK n c) : bw (bw u) = u := by
  unfold bw
  rw [← List.map_reverse, List.reverse_reverse, List.map_map]
  have : u.map (bk ∘ bk) = u.map id := List.map_congr_left fun c hc => bk_bk hn (h c hc)
  rw [this, List.map_id]
theorem gI_eq (hn : n ≤ 6) (wv : Way n v) (F u : Wd) (t : Nat) (p q : Int) : gI F u v t p q = aI F u (bw v) t p (-1 - q) := by
  unfold gI aI
  rw [agaC_v hn wv.ne wv.let_, aloC_v]
theorem aI_swap (sf : Sf F n) (wu : Way n u) (wv : Way n v) (ht : 1 ≤ t) (p q : Int) : aI F v u t q p = aI F u v t p q := by
  unfold aI
  rw [aloC_v, aloC_v, alX_swap sf (wu.l _) (wv.l _) ht]
theorem vx_rev (wu : Way n u) (t : Nat) (p : Int) : vx (bw u) p = fun k => bk (vx u (-p - (t : Int)) ((t : Int) - 1 - k)) := funext fun k => by
  unfold vx
  rw [atw_bw wu.ne, show -1 - (p + k) = -p - (t : Int) + ((t : Int) - 1 - k) by omega]
theorem aI_rev (hn : n ≤ 6) (wu : Way n u) (wv : Way n v) (F : Wd) (t : Nat) (p q : Int) : aI F (bw u) (bw v) t p q = aI F u v t (-p - (t : Int)) (-q - (t : Int)) := by
  unfold aI
  rw [aloC_v, aloC_v, vx_rev wu t, vx_rev wv t, alX_rev hn (wu.l _) (wv.l _)]
theorem gI_swap (sf : Sf F n) (wu : Way n u) (wv : Way n v) (ht : 1 ≤ t) (p q : Int) : gI F u v t p q = gI F v u t (q + 1 - (t : Int)) (p + (t : Int) - 1) := by
  have hn := sf.six
  have wub := wu.back hn
  have e := aI_rev hn wub wv F t p (-1 - q)
  rw [bw_bw hn wu.let_] at e
  rw [gI_eq hn wv, gI_eq hn wu, e, ← aI_swap sf wub wv ht]
  congr 1 <;> omega
theorem bI_swap (sf : Sf F n) (wu : Way n u) (wv : Way n v) (p q : Int) : bI F v u q p = bI F u v p q := by
  unfold bI
  rw [besC_v, besC_v, beX_swap sf (wu.l _) (wv.l _)]
theorem bI_rev (sf : Sf F n) (wu : Way n u) (wv : Way n v) (p q : Int) : bI F (bw u) v p q = bI F u v (-2 - p) q := by
  unfold bI
  rw [besC_v, besC_v]
  have : vx (bw u) p = fun k => bk (vx u (-2 - p) (1 - k)) := funext fun k => by
    unfold vx
    rw [atw_bw wu.ne, show -1 - (p + k) = -2 - p + (1 - k) by omega]
  rw [this, beX_rev sf (wu.l _) (wv.l _)]
theorem vx_rot (wu : Way n u) {a : Nat} (ha : a ≤ u.length) (p : Int) : vx (rot u a) p = vx u (p + (a : Int)) := funext fun k => by
  unfold vx
  rw [atw_rot wu.ne ha, show p + k + (a : Int) = p + (a : Int) + k by omega]
theorem bP1 (F u v : Wd) (q : Int) : Per u.length fun p => bI F u v p q := fun p => by
  show bI F u v (p + (u.length : Int)) q = bI F u v p q
  unfold bI
  rw [besC_v, besC_v, vx_per]
theorem bP2 (F u v : Wd) (p : Int) : Per v.length fun q => bI F u v p q := fun q => by
  show bI F u v p (q + (v.length : Int)) = bI F u v p q
  unfold bI
  rw [besC_v, besC_v, vx_per]
theorem aP1 (F u v : Wd) (t : Nat) (q : Int) : Per u.length fun p => aI F u v t p q := fun p => by
  show aI F u v t (p + (u.length : Int)) q = aI F u v t p q
  unfold aI
  rw [aloC_v, aloC_v, vx_per]
theorem aP2 (F u v : Wd) (t : Nat) (p : Int) : Per v.length fun q => aI F u v t p q := fun q => by
  show aI F u v t p (q + (v.length : Int)) = aI F u v t p q
  unfold aI
  rw [aloC_v, aloC_v, vx_per]
theorem gP1 (hn : n ≤ 6) (wv : Way n v) (F u : Wd) (t : Nat) (q : Int) : Per u.length fun p => gI F u v t p q := fun p => by
  show gI F u v t (p + (u.length : Int)) q = gI F u v t p q
  rw [gI_eq hn wv, gI_eq hn wv]
  exact aP1 F u (bw v) t _ p
theorem gP2 (hn : n ≤ 6) (wv : Way n v) (F u : Wd) (t : Nat) (p : Int) : Per v.length fun q => gI F u v t p q := fun q => by
  show gI F u v t p (q + (v.length : Int)) = gI F u v t p q
  rw [gI_eq hn wv, gI_eq hn wv]
  have := aP2 F u (bw v) t p (-1 - (q + (v.length : Int)))
  rw [bw_len] at this
  have e : (fun q => aI F u (bw v) t p q) (-1 - (q + (v.length : Int)) + (v.length : Int)) = aI F u (bw v) t p (-1 - q) := by
    show aI F u (bw v) t p (-1 - (q + (v.length : Int)) + (v.length : Int)) = _
    congr 1
    omega
  rw [e] at this
  exact this.symm
/-! ### the whole count keeps -/
theorem Bt_rot (sf : Sf F n) (wu : Way n u) (wv : Way n v) {a : Nat} (ha : a ≤ u.length) : Bt F (rot u a) v = Bt F u v := by
  have hn := sf.six
  unfold Bt
  rw [rot_len ha]
  have e1 : S2 u.length v.length (bI F (rot u a) v) = S2 u.length v.length (bI F u v) := by
    rw [← S2_sh1 (fun q => bP1 F u v q) (a : Int)]
    exact S2_congr fun p q => by
      unfold bI
      rw [besC_v, besC_v, vx_rot wu ha]
  have e2 : ∀ t, S2 u.length v.length (aI F (rot u a) v t) = S2 u.length v.length (aI F u v t) := fun t => by
    rw [← S2_sh1 (fun q => aP1 F u v t q) (a : Int)]
    exact S2_congr fun p q => by
      unfold aI
      rw [aloC_v, aloC_v, vx_rot wu ha]
  have e3 : ∀ t, S2 u.length v.length (gI F (rot u a) v t) = S2 u.length v.length (gI F u v t) := fun t => by
    rw [← S2_sh1 (fun q => gP1 hn wv F u t q) (a : Int)]
    exact S2_congr fun p q => by
      rw [gI_eq hn wv, gI_eq hn wv]
      unfold aI
      rw [aloC_v, aloC_v, vx_rot wu ha]
  rw [e1]
  simp only [e2, e3]
theorem Bt_bw (sf : Sf F n) (wu : Way n u) (wv : Way n v) : Bt F (bw u) v = Bt F u v := by
  have hn := sf.six
  have wvb := wv.back hn
  unfold Bt
  rw [bw_len]
  have e1 : S2 u.length v.length (bI F (bw u) v) = S2 u.length v.length (bI F u v) := by
    rw [← S2_rf1 (fun q => bP1 F u v q) (-2)]
    exact S2_congr fun p q => bI_rev sf wu wv p q
  have e2 : ∀ t, S2 u.length v.length (gI F (bw u) v t) = S2 u.length v.length (aI F u v t) := fun t => by
    have s1 : S2 u.length v.length (gI F (bw u) v t) = S2 u.length v.length fun p q => aI F u v t (-(t : Int) - p) (q + (1 - (t : Int))) := S2_congr fun p q => by
      rw [gI_eq hn wv, aI_rev hn wu wv]
      congr 1 <;> omega
    rw [s1, S2_rf1 (f := fun p q => aI F u v t p (q + (1 - (t : Int)))) (fun q => aP1 F u v t _) (-(t : Int)), S2_sh2 (fun p => aP2 F u v t p)]
  have e3 : ∀ t, S2 u.length v.length (aI F (bw u) v t) = S2 u.length v.length (gI F u v t) := fun t => by
    have s1 : S2 u.length v.length (aI F (bw u) v t) = S2 u.length v.length fun p q => gI F u v t (-(t : Int) - p) (q + ((t : Int) - 1)) := S2_congr fun p q => by
      have := aI_rev hn wu wvb F t p q
      rw [bw_bw hn wv.let_] at this
      rw [this, gI_eq hn wv]
      congr 1 <;> omega
    rw [s1, S2_rf1 (f := fun p q => gI F u v t p (q + ((t : Int) - 1))) (fun q => gP1 hn wv F u t _) (-(t : Int)), S2_sh2 (fun p => gP2 hn wv F u t p)]
  rw [e1]
  simp only [e2, e3]
  omega
theorem Bt_comm (sf : Sf F n) (wu : Way n u) (wv : Way n v) : Bt F v u = Bt F u v := by
  have hn := sf.six
  unfold Bt
  rw [Nat.add_comm v.length u.length]
  have e1 : S2 v.length u.length (bI F v u) = S2 u.length v.length (bI F u v) := by
    rw [S2_comm]
    exact S2_congr fun p q => bI_swap sf wu wv p q
  have e2 : ∀ t, S2 v.length u.length (aI F v u (t + 1)) = S2 u.length v.length (aI F u v (t + 1)) := fun t => by
    rw [S2_comm]
    exact S2_congr fun p q => aI_swap sf wu wv (by omega) p q
  have e3 : ∀ t, S2 v.length u.length (gI F v u (t + 1)) = S2 u.length v.length (gI F u v (t + 1)) := fun t => by
    rw [S2_comm]
    have s1 : (S2 u.length v.length fun p q => gI F v u (t + 1) q p) = S2 u.length v.length fun p q => gI F u v (t + 1) (p + (1 - ((t + 1 : Nat) : Int))) (q + (((t + 1 : Nat) : Int) - 1)) := S2_congr fun p q => by
      rw [gI_swap sf wv wu (by omega)]
      congr 1 <;> omega
    rw [s1, S2_sh1 (f := fun p q => gI F u v (t + 1) p (q + (((t + 1 : Nat) : Int) - 1))) (fun q => gP1 hn wv F u (t + 1) _), S2_sh2 (fun p => gP2 hn wv F u (t + 1) p)]
  rw [e1]
  simp only [e2, e3]
/-- one way against itself: half of the whole -/
theorem gI_diag (wu : Way n u) (hn : n ≤ 6) (ht : 1 ≤ t) (p : Int) : agaC F u u p (p + ((t : Int) - 1)) t = false := by
  cases h : agaC F u u p (p + ((t : Int) - 1)) t with
  | false => rfl
  | true =>
    unfold agaC at h
    have a := agr_iff.mp (Bool.and_eq_true_iff.mp h).1
    rcases Nat.mod_two_eq_zero_or_one t with e | e
    · have := a (t / 2 - 1) (by omega)
      have e1 : p + ((t : Int) - 1) - ((t / 2 - 1 : Nat) : Int) = p + ((t / 2 - 1 : Nat) : Int) + 1 := by omega
      have this : atw u (p + ((t / 2 - 1 : Nat) : Int)) = bk (atw u (p + ((t : Int) - 1) - ((t / 2 - 1 : Nat) : Int))) := this
      rw [e1] at this
      have r := wu.rnd (p + ((t / 2 - 1 : Nat) : Int))
      rw [this, bk_bk hn (wu.let_ _ (atw_get wu.ne _).2)] at r
      exact absurd rfl r
    · have := a (t / 2) (by omega)
      have e1 : p + ((t : Int) - 1) - ((t / 2 : Nat) : Int) = p + ((t / 2 : Nat) : Int) := by omega
      have this : atw u (p + ((t / 2 : Nat) : Int)) = bk (atw u (p + ((t : Int) - 1) - ((t / 2 : Nat) : Int))) := this
      rw [e1] at this
      exact absurd this.symm (bk_ne _)
theorem and_if (p q : Nat) (b : Bool) : (decide (p < q) && b).toNat = if p < q then b.toNat else 0 := by
  by_cases h : p < q
  · rw [decide_eq_true h, if_pos h, Bool.true_and]
  · rw [decide_eq_false h, if_neg h]
    rfl
theorem cnt_self (sf : Sf F n) (wu : Way n u) (i : Nat) : 2 * cntL F u u i i = Bt F u u := by
  have hn := sf.six
  have lp := wu.pos
  have eS : ∀ p q, ltS i p i q = decide (p < q) := fun p q => by
    unfold ltS
    rw [if_pos rfl]
  have e1 : 2 * (sN u.length fun p => sN u.length fun q => (ltS i p i q && besC F u u p q).toNat) = S2 u.length u.length (bI F u u) := by
    have := half (n := u.length) (h := fun p q => bI F u u p q) (fun p q _ _ => (bI_swap sf wu wu _ _).symm) (fun p _ => by
      show (besC F u u p p).toNat = 0
      unfold besC
      have : four (bk (atw u p)) (atw u (p + 1)) (bk (atw u p)) (atw u (p + 1)) = false := by
        unfold four
        exact decide_eq_false fun h => h.2.1 rfl
      rw [this]
      rfl)
    simp only [eS, and_if]
    exact this
  have e2 : ∀ t, 2 * (sN u.length fun p => sN u.length fun q => (ltS i p i q && aloC F u u p q (t + 1)).toNat) = S2 u.length u.length (aI F u u (t + 1)) := fun t => by
    have := half (n := u.length) (h := fun p q => aI F u u (t + 1) p q) (fun p q _ _ => (aI_swap sf wu wu (by omega) _ _).symm) (fun p _ => by
      show (aloC F u u p p (t + 1)).toNat = 0
      cases hh : aloC F u u p p (t + 1) with
      | false => rfl
      | true =>
        rw [aloC_v] at hh
        exact absurd rfl (alX_iff.mp hh).e1)
    simp only [eS, and_if]
    exact this
  have e3 : ∀ t, 2 * (sN u.length fun p => sN u.length fun q => (ltA i p i q u.length (t + 1) && agaC F u u p q (t + 1)).toNat) = S2 u.length u.length (gI F u u (t + 1)) := fun t => by
    have hs := half (n := u.length) (h := fun p s => gI F u u (t + 1) p ((s : Int) + (((t + 1 : Nat) : Int) - 1))) (fun p s _ _ => by
      rw [gI_swap sf wu wu (by omega)]
      congr 1 <;> omega) (fun p _ => by
      show (agaC F u u p ((p : Int) + (((t + 1 : Nat) : Int) - 1)) (t + 1)).toNat = 0
      rw [gI_diag wu hn (by omega)]
      rfl)
    have hr : (sN u.length fun p => sN u.length fun s => gI F u u (t + 1) p ((s : Int) + (((t + 1 : Nat) : Int) - 1))) = S2 u.length u.length (gI F u u (t + 1)) := S2_sh2 (fun p => gP2 hn wu F u (t + 1) p) _
    rw [hr] at hs
    rw [← hs]
    congr 1
    refine sN_congr fun p _ => ?_
    -- the turns of q, from where the run begins
    let φ : Int → Nat := fun q => (decide (p < ((q + (1 - ((t + 1 : Nat) : Int))) % (u.length : Int)).toNat) && agaC F u u p q (t + 1)).toNat
    have per : Per u.length φ := fun q => by
      show (decide (p < ((q + (u.length : Int) + (1 - ((t + 1 : Nat) : Int))) % (u.length : Int)).toNat) && agaC F u u p (q + (u.length : Int)) (t + 1)).toNat = (decide (p < ((q + (1 - ((t + 1 : Nat) : Int))) % (u.length : Int)).toNat) && agaC F u u p q (t + 1)).toNat
      have g := gP2 hn wu F u (t + 1) (p : Int) q
      have g2 : agaC F u u p (q + (u.length : Int)) (t + 1) = agaC F u u p q (t + 1) := by
        have g' : (agaC F u u p (q + (u.length : Int)) (t + 1)).toNat = (agaC F u u p q (t + 1)).toNat := g
        revert g'
        cases agaC F u u p (q + (u.length : Int)) (t + 1) <;> cases agaC F u u p q (t + 1) <;> intro g' <;> first | rfl | exact absurd g' (by decide)
      rw [g2, show q + (u.length : Int) + (1 - ((t + 1 : Nat) : Int)) = q + (1 - ((t + 1 : Nat) : Int)) + (u.length : Int) by omega, Int.add_emod_right]
    have s1 : (sN u.length fun q => (ltA i p i q u.length (t + 1) && agaC F u u p q (t + 1)).toNat) = sP u.length φ := sN_congr fun q _ => by
      unfold ltA
      rw [eS]
    rw [s1, ← sP_shift per (((t + 1 : Nat) : Int) - 1)]
    refine sN_congr fun s hs => ?_
    show (decide (p < (((s : Int) + (((t + 1 : Nat) : Int) - 1) + (1 - ((t + 1 : Nat) : Int))) % (u.length : Int)).toNat) && agaC F u u p ((s : Int) + (((t + 1 : Nat) : Int) - 1)) (t + 1)).toNat = _
    rw [show (s : Int) + (((t + 1 : Nat) : Int) - 1) + (1 - ((t + 1 : Nat) : Int)) = (s : Int) by omega, Int.emod_eq_of_lt (by omega) (by omega), Int.toNat_natCast, and_if]
    rfl
  rw [cntL_eq, Nat.mul_add, Nat.mul_add, e1, ← sN_two, ← sN_two]
  simp only [e2, e3]
  rfl
end
end RW
set_option Elab.async false
set_option linter.all false
set_option maxRecDepth 100000
set_option maxHeartbeats 4000000
namespace RW
open PySem

theorem sortD_len (ds : List PyData) : (sortD ds).length = ds.length := by
  unfold sortD
  rw [List.length_mergeSort]
def lensW (F : Wd) (W : List Wd) : List Nat := (List.range W.length).flatMap fun i => (List.range (W.length - i)).map fun m => cntL F (W.getD i []) (W.getD (i + m) []) i (i + m)
theorem map_flat {α β : Type} (g : Nat → List α) (h : α → β) : ∀ n, ((List.range n).flatMap g).map h = (List.range n).flatMap fun k => (g k).map h
  | 0 => rfl
  | n + 1 => by
    rw [flat_snoc, flat_snoc, List.map_append, map_flat g h n]
theorem ask_lens (F : Wd) (W : List Wd) : (askD F W).map List.length = lensW F W := by
  unfold askD lensW
  rw [map_flat]
  refine flat_congr fun i _ => ?_
  unfold askRow
  rw [List.map_map]
  refine List.map_congr_left fun m _ => ?_
  show (sortD _).length = _
  rw [sortD_len]
  rfl
theorem law_trn (F : Wd) (n : Nat) (u v : Wd) (W : List Wd) (sf : Sf F n) (mW : ∀ x ∈ u :: W, Way n x) (h : ∃ a, a ≤ u.length ∧ (v = rot u a ∨ v = rot (bw u) a)) : (askD F (v :: W)).map List.length = (askD F (u :: W)).map List.length := by
  obtain ⟨a, ha, hv⟩ := h
  have wu := mW u List.mem_cons_self
  have hn := sf.six
  have wb := wu.back hn
  have one : ∀ x, Way n x → Bt F v x = Bt F u x := fun x wx => by
    rcases hv with rfl | rfl
    · exact Bt_rot sf wu wx ha
    · rw [Bt_rot sf wb wx (by rw [bw_len]; exact ha), Bt_bw sf wu wx]
  have wv : Way n v := by
    rcases hv with rfl | rfl
    · exact wu.rot ha
    · exact wb.rot (by rw [bw_len]; exact ha)
  have self : cntL F v v 0 0 = cntL F u u 0 0 := by
    have h1 := cnt_self sf wv 0
    have h2 := cnt_self sf wu 0
    have h3 := one v wv
    have h4 := Bt_comm sf wu wv
    have h5 := one u wu
    omega
  rw [ask_lens, ask_lens]
  unfold lensW
  rw [List.length_cons, List.length_cons]
  refine flat_congr fun i hi => ?_
  refine List.map_congr_left fun m hm => ?_
  have hm := List.mem_range.mp hm
  have at_ : ∀ k, k < W.length → W.getD k [] ∈ W := fun k hk => by
    rw [List.getD_eq_getElem?_getD, List.getElem?_eq_getElem hk]
    exact List.getElem_mem hk
  cases i with
  | zero =>
    cases m with
    | zero => exact self
    | succ m =>
      rw [Nat.zero_add]
      show cntL F v (W.getD m []) 0 (m + 1) = cntL F u (W.getD m []) 0 (m + 1)
      rw [cnt_lt F _ _ (by omega), cnt_lt F _ _ (by omega)]
      exact one _ (mW _ (List.mem_cons_of_mem _ (at_ m (by omega))))
  | succ i =>
    rw [show i + 1 + m = (i + m) + 1 by omega]
    rfl
theorem cnt_any {F : Wd} {n : Nat} {u : Wd} (sf : Sf F n) (wu : Way n u) (i : Nat) : cntL F u u i i = cntL F u u 0 0 := by
  have h1 := cnt_self sf wu i
  have h2 := cnt_self sf wu 0
  omega
theorem law_bak (F : Wd) (n : Nat) (W : List Wd) (sf : Sf F n) (mW : ∀ u ∈ W, Way n u) (l3 : W.length ≤ 3) : ((askD F W.reverse).map List.length).Perm ((askD F W).map List.length) := by
  rw [ask_lens, ask_lens]
  match W, l3, mW with
  | [], _, _ => exact List.Perm.refl _
  | [a], _, _ => exact List.Perm.refl _
  | [a, b], _, mW =>
    have wa := mW a (by simp)
    have wb := mW b (by simp)
    show ([cntL F b b 0 0, cntL F b a 0 1, cntL F a a 1 1] : List Nat).Perm [cntL F a a 0 0, cntL F a b 0 1, cntL F b b 1 1]
    rw [cnt_any sf wa 1, cnt_any sf wb 1, cnt_lt F b a (by omega), cnt_lt F a b (by omega), Bt_comm sf wa wb]
    exact (List.reverse_perm [cntL F a a 0 0, Bt F a b, cntL F b b 0 0])
  | [a, b, c], _, mW =>
    have wa := mW a (by simp)
    have wb := mW b (by simp)
    have wc := mW c (by simp)
    show ([cntL F c c 0 0, cntL F c b 0 1, cntL F c a 0 2, cntL F b b 1 1, cntL F b a 1 2, cntL F a a 2 2] : List Nat).Perm [cntL F a a 0 0, cntL F a b 0 1, cntL F a c 0 2, cntL F b b 1 1, cntL F b c 1 2, cntL F c c 2 2]
    rw [cnt_any sf wa 2, cnt_any sf wb 1, cnt_any sf wc 2, cnt_lt F c b (by omega), cnt_lt F c a (by omega), cnt_lt F b a (by omega), cnt_lt F a b (by omega), cnt_lt F a c (by omega), cnt_lt F b c (by omega), Bt_comm sf wa wb, Bt_comm sf wa wc, Bt_comm sf wb wc]
    refine List.Perm.trans ?_ (List.reverse_perm [cntL F a a 0 0, Bt F a b, Bt F a c, cntL F b b 0 0, Bt F b c, cntL F c c 0 0])
    exact List.Perm.cons _ (List.Perm.cons _ (List.Perm.swap _ _ _))
  | a :: b :: c :: d :: W, l3, _ =>
    simp at l3
theorem laws : Laws := ⟨law_rot, law_rev, law_ren, law_brev, law_bren, law_trn, law_bak⟩
end RW
set_option Elab.async false
set_option linter.all false
set_option maxRecDepth 100000
set_option maxHeartbeats 4000000
namespace RW
open PySem PySem.Spec PyProof.Rows L2 SX Evl
/-! ### what the top has written -/
set_option maxHeartbeats 0 in
theorem all_mk {l : PySem.W.OpenLaw} {w : World} {K : PySem.W.Frag} {h : Heap} {mg : Str → Option Value} {fa f1 f2 f3 f4 f5 f6 f7 f8 f9 f10 f11 f12 f13 f14 f15 f16 f17 f18 f19 f20 f21 f22 f23 f24 f25 f26 f27 f28 f29 f30 f31 f32 f33 : Addr} (X : K.In h) (G : h.Ns mainGlobals mg) (hfa : mg "law" = some (.ref fa))
    {od1 od2 od3 od4 od5 od6 od7 od8 od9 od10 od11 od12 od13 od14 od15 od16 od17 od18 od19 od20 od21 od22 od23 od24 od25 od26 od27 od28 od29 od30 od31 od32 od33 an1 an2 an3 an4 an5 an6 an7 an8 an9 an10 an11 an12 an13 an14 an15 an16 an17 an18 an19 an20 an21 an22 an23 an24 an25 an26 an27 an28 an29 an30 an31 an32 an33 : Option Addr} {sl1 sl2 sl3 sl4 sl5 sl6 sl7 sl8 sl9 sl10 sl11 sl12 sl13 sl14 sl15 sl16 sl17 sl18 sl19 sl20 sl21 sl22 sl23 sl24 sl25 sl26 sl27 sl28 sl29 sl30 sl31 sl32 sl33 : Array (Option Value)} {oc1 oc2 oc3 oc4 oc5 oc6 oc7 oc8 oc9 oc10 oc11 oc12 oc13 oc14 oc15 oc16 oc17 oc18 oc19 oc20 oc21 oc22 oc23 oc24 oc25 oc26 oc27 oc28 oc29 oc30 oc31 oc32 oc33 kV1 kV2 kV3 kV4 kV5 kV6 kV7 kV8 kV9 kV10 kV11 kV12 kV13 kV14 kV15 kV16 kV17 kV18 kV19 kV20 kV21 kV22 kV23 kV24 kV25 kV26 kV27 kV28 kV29 kV30 kV31 kV32 kV33 dc1 dc2 dc3 dc4 dc5 dc6 dc7 dc8 dc9 dc10 dc11 dc12 dc13 dc14 dc15 dc16 dc17 dc18 dc19 dc20 dc21 dc22 dc23 dc24 dc25 dc26 dc27 dc28 dc29 dc30 dc31 dc32 dc33 pm1 pm2 pm3 pm4 pm5 pm6 pm7 pm8 pm9 pm10 pm11 pm12 pm13 pm14 pm15 pm16 pm17 pm18 pm19 pm20 pm21 pm22 pm23 pm24 pm25 pm26 pm27 pm28 pm29 pm30 pm31 pm32 pm33 cd1 cd2 cd3 cd4 cd5 cd6 cd7 cd8 cd9 cd10 cd11 cd12 cd13 cd14 cd15 cd16 cd17 cd18 cd19 cd20 cd21 cd22 cd23 cd24 cd25 cd26 cd27 cd28 cd29 cd30 cd31 cd32 cd33 ct1 ct2 ct3 ct4 ct5 ct6 ct7 ct8 ct9 ct10 ct11 ct12 ct13 ct14 ct15 ct16 ct17 ct18 ct19 ct20 ct21 ct22 ct23 ct24 ct25 ct26 ct27 ct28 ct29 ct30 ct31 ct32 ct33 : Value} {tL tB : Tok}
    (a1 : PySem.W.nsIn K mainGlobals "back_of" = some (some (.ref f1))) (l1 : K.lookup f1 = some ⟨oc1, od1, .func (PySem.W.fnOf "back_of" "back_of" (defArgs sBackOf) (defBody sBackOf) (defScope sBackOf) .none kV1 dc1 pm1 an1 cd1 ct1), sl1⟩) (c1 : PySem.W.codeIn K cd1 "back_of" = true) (k1 : PySem.W.keepIn K (.ref f1) = true)
    (a2 : PySem.W.nsIn K mainGlobals "back" = some (some (.ref f2))) (l2 : K.lookup f2 = some ⟨oc2, od2, .func (PySem.W.fnOf "back" "back" (defArgs sBack) (defBody sBack) (defScope sBack) .none kV2 dc2 pm2 an2 cd2 ct2), sl2⟩) (c2 : PySem.W.codeIn K cd2 "back" = true) (k2 : PySem.W.keepIn K (.ref f2) = true)
    (a3 : PySem.W.nsIn K mainGlobals "moved" = some (some (.ref f3))) (l3 : K.lookup f3 = some ⟨oc3, od3, .func (PySem.W.fnOf "moved" "moved" (defArgs sMoved) (defBody sMoved) (defScope sMoved) .none kV3 dc3 pm3 an3 cd3 ct3), sl3⟩) (c3 : PySem.W.codeIn K cd3 "moved" = true) (k3 : PySem.W.keepIn K (.ref f3) = true)
    (a4 : PySem.W.nsIn K mainGlobals "letter_at" = some (some (.ref f4))) (l4 : K.lookup f4 = some ⟨oc4, od4, .func (PySem.W.fnOf "letter_at" "letter_at" (defArgs sLetterAt) (defBody sLetterAt) (defScope sLetterAt) .none kV4 dc4 pm4 an4 cd4 ct4), sl4⟩) (c4 : PySem.W.codeIn K cd4 "letter_at" = true) (k4 : PySem.W.keepIn K (.ref f4) = true)
    (a5 : PySem.W.nsIn K mainGlobals "is_strand" = some (some (.ref f5))) (l5 : K.lookup f5 = some ⟨oc5, od5, .func (PySem.W.fnOf "is_strand" "is_strand" (defArgs sIsStrand) (defBody sIsStrand) (defScope sIsStrand) .none kV5 dc5 pm5 an5 cd5 ct5), sl5⟩) (c5 : PySem.W.codeIn K cd5 "is_strand" = true) (k5 : PySem.W.keepIn K (.ref f5) = true)
    (a6 : PySem.W.nsIn K mainGlobals "room_of" = some (some (.ref f6))) (l6 : K.lookup f6 = some ⟨oc6, od6, .func (PySem.W.fnOf "room_of" "room_of" (defArgs sRoomOf) (defBody sRoomOf) (defScope sRoomOf) .none kV6 dc6 pm6 an6 cd6 ct6), sl6⟩) (c6 : PySem.W.codeIn K cd6 "room_of" = true) (k6 : PySem.W.keepIn K (.ref f6) = true)
    (a7 : PySem.W.nsIn K mainGlobals "comes_first" = some (some (.ref f7))) (l7 : K.lookup f7 = some ⟨oc7, od7, .func (PySem.W.fnOf "comes_first" "comes_first" (defArgs sComesFirst) (defBody sComesFirst) (defScope sComesFirst) .none kV7 dc7 pm7 an7 cd7 ct7), sl7⟩) (c7 : PySem.W.codeIn K cd7 "comes_first" = true) (k7 : PySem.W.keepIn K (.ref f7) = true)
    (a8 : PySem.W.nsIn K mainGlobals "is_beside" = some (some (.ref f8))) (l8 : K.lookup f8 = some ⟨oc8, od8, .func (PySem.W.fnOf "is_beside" "is_beside" (defArgs sIsBeside) (defBody sIsBeside) (defScope sIsBeside) .none kV8 dc8 pm8 an8 cd8 ct8), sl8⟩) (c8 : PySem.W.codeIn K cd8 "is_beside" = true) (k8 : PySem.W.keepIn K (.ref f8) = true)
    (a9 : PySem.W.nsIn K mainGlobals "is_along" = some (some (.ref f9))) (l9 : K.lookup f9 = some ⟨oc9, od9, .func (PySem.W.fnOf "is_along" "is_along" (defArgs sIsAlong) (defBody sIsAlong) (defScope sIsAlong) .none kV9 dc9 pm9 an9 cd9 ct9), sl9⟩) (c9 : PySem.W.codeIn K cd9 "is_along" = true) (k9 : PySem.W.keepIn K (.ref f9) = true)
    (a10 : PySem.W.nsIn K mainGlobals "is_against" = some (some (.ref f10))) (l10 : K.lookup f10 = some ⟨oc10, od10, .func (PySem.W.fnOf "is_against" "is_against" (defArgs sIsAgainst) (defBody sIsAgainst) (defScope sIsAgainst) .none kV10 dc10 pm10 an10 cd10 ct10), sl10⟩) (c10 : PySem.W.codeIn K cd10 "is_against" = true) (k10 : PySem.W.keepIn K (.ref f10) = true)
    (a11 : PySem.W.nsIn K mainGlobals "is_long" = some (some (.ref f11))) (l11 : K.lookup f11 = some ⟨oc11, od11, .func (PySem.W.fnOf "is_long" "is_long" (defArgs sIsLong) (defBody sIsLong) (defScope sIsLong) .none kV11 dc11 pm11 an11 cd11 ct11), sl11⟩) (c11 : PySem.W.codeIn K cd11 "is_long" = true) (k11 : PySem.W.keepIn K (.ref f11) = true)
    (a12 : PySem.W.nsIn K mainGlobals "is_link" = some (some (.ref f12))) (l12 : K.lookup f12 = some ⟨oc12, od12, .func (PySem.W.fnOf "is_link" "is_link" (defArgs sIsLink) (defBody sIsLink) (defScope sIsLink) .none kV12 dc12 pm12 an12 cd12 ct12), sl12⟩) (c12 : PySem.W.codeIn K cd12 "is_link" = true) (k12 : PySem.W.keepIn K (.ref f12) = true)
    (a13 : PySem.W.nsIn K mainGlobals "run_along" = some (some (.ref f13))) (l13 : K.lookup f13 = some ⟨oc13, od13, .func (PySem.W.fnOf "run_along" "run_along" (defArgs sRunAlong) (defBody sRunAlong) (defScope sRunAlong) .none kV13 dc13 pm13 an13 cd13 ct13), sl13⟩) (c13 : PySem.W.codeIn K cd13 "run_along" = true) (k13 : PySem.W.keepIn K (.ref f13) = true)
    (a14 : PySem.W.nsIn K mainGlobals "run_against" = some (some (.ref f14))) (l14 : K.lookup f14 = some ⟨oc14, od14, .func (PySem.W.fnOf "run_against" "run_against" (defArgs sRunAgainst) (defBody sRunAgainst) (defScope sRunAgainst) .none kV14 dc14 pm14 an14 cd14 ct14), sl14⟩) (c14 : PySem.W.codeIn K cd14 "run_against" = true) (k14 : PySem.W.keepIn K (.ref f14) = true)
    (a15 : PySem.W.nsIn K mainGlobals "links_of" = some (some (.ref f15))) (l15 : K.lookup f15 = some ⟨oc15, od15, .func (PySem.W.fnOf "links_of" "links_of" (defArgs sLinksOf) (defBody sLinksOf) (defScope sLinksOf) .none kV15 dc15 pm15 an15 cd15 ct15), sl15⟩) (c15 : PySem.W.codeIn K cd15 "links_of" = true) (k15 : PySem.W.keepIn K (.ref f15) = true)
    (a16 : PySem.W.nsIn K mainGlobals "links" = some (some (.ref f16))) (l16 : K.lookup f16 = some ⟨oc16, od16, .func (PySem.W.fnOf "links" "links" (defArgs sLinks) (defBody sLinks) (defScope sLinks) .none kV16 dc16 pm16 an16 cd16 ct16), sl16⟩) (c16 : PySem.W.codeIn K cd16 "links" = true) (k16 : PySem.W.keepIn K (.ref f16) = true)
    (a17 : PySem.W.nsIn K mainGlobals "sums" = some (some (.ref f17))) (l17 : K.lookup f17 = some ⟨oc17, od17, .func (PySem.W.fnOf "sums" "sums" (defArgs sSums) (defBody sSums) (defScope sSums) .none kV17 dc17 pm17 an17 cd17 ct17), sl17⟩) (c17 : PySem.W.codeIn K cd17 "sums" = true) (k17 : PySem.W.keepIn K (.ref f17) = true)
    (a18 : PySem.W.nsIn K mainGlobals "side_of" = some (some (.ref f18))) (l18 : K.lookup f18 = some ⟨oc18, od18, .func (PySem.W.fnOf "side_of" "side_of" (defArgs sSideOf) (defBody sSideOf) (defScope sSideOf) .none kV18 dc18 pm18 an18 cd18 ct18), sl18⟩) (c18 : PySem.W.codeIn K cd18 "side_of" = true) (k18 : PySem.W.keepIn K (.ref f18) = true)
    (a19 : PySem.W.nsIn K mainGlobals "balance" = some (some (.ref f19))) (l19 : K.lookup f19 = some ⟨oc19, od19, .func (PySem.W.fnOf "balance" "balance" (defArgs sBalance) (defBody sBalance) (defScope sBalance) .none kV19 dc19 pm19 an19 cd19 ct19), sl19⟩) (c19 : PySem.W.codeIn K cd19 "balance" = true) (k19 : PySem.W.keepIn K (.ref f19) = true)
    (a20 : PySem.W.nsIn K mainGlobals "_law_tape" = some (some (.ref f20))) (l20 : K.lookup f20 = some ⟨oc20, od20, .func (PySem.W.fnOf "_law_tape" "_law_tape" (defArgs sTape) (defBody sTape) (defScope sTape) .none kV20 dc20 pm20 an20 cd20 ct20), sl20⟩) (c20 : PySem.W.codeIn K cd20 "_law_tape" = true) (k20 : PySem.W.keepIn K (.ref f20) = true)
    (a21 : PySem.W.nsIn K mainGlobals "_law_draw" = some (some (.ref f21))) (l21 : K.lookup f21 = some ⟨oc21, od21, .func (PySem.W.fnOf "_law_draw" "_law_draw" (defArgs sDraw) (defBody sDraw) (defScope sDraw) .none kV21 dc21 pm21 an21 cd21 ct21), sl21⟩) (c21 : PySem.W.codeIn K cd21 "_law_draw" = true) (k21 : PySem.W.keepIn K (.ref f21) = true)
    (a22 : PySem.W.nsIn K mainGlobals "_law_back" = some (some (.ref f22))) (l22 : K.lookup f22 = some ⟨oc22, od22, .func (PySem.W.fnOf "_law_back" "_law_back" (defArgs sLBack) (defBody sLBack) (defScope sLBack) .none kV22 dc22 pm22 an22 cd22 ct22), sl22⟩) (c22 : PySem.W.codeIn K cd22 "_law_back" = true) (k22 : PySem.W.keepIn K (.ref f22) = true)
    (a23 : PySem.W.nsIn K mainGlobals "_law_any_row" = some (some (.ref f23))) (l23 : K.lookup f23 = some ⟨oc23, od23, .func (PySem.W.fnOf "_law_any_row" "_law_any_row" (defArgs sAnyRow) (defBody sAnyRow) (defScope sAnyRow) .none kV23 dc23 pm23 an23 cd23 ct23), sl23⟩) (c23 : PySem.W.codeIn K cd23 "_law_any_row" = true) (k23 : PySem.W.keepIn K (.ref f23) = true)
    (a24 : PySem.W.nsIn K mainGlobals "_law_inner" = some (some (.ref f24))) (l24 : K.lookup f24 = some ⟨oc24, od24, .func (PySem.W.fnOf "_law_inner" "_law_inner" (defArgs sInner) (defBody sInner) (defScope sInner) .none kV24 dc24 pm24 an24 cd24 ct24), sl24⟩) (c24 : PySem.W.codeIn K cd24 "_law_inner" = true) (k24 : PySem.W.keepIn K (.ref f24) = true)
    (a25 : PySem.W.nsIn K mainGlobals "_law_rooted" = some (some (.ref f25))) (l25 : K.lookup f25 = some ⟨oc25, od25, .func (PySem.W.fnOf "_law_rooted" "_law_rooted" (defArgs sRooted) (defBody sRooted) (defScope sRooted) .none kV25 dc25 pm25 an25 cd25 ct25), sl25⟩) (c25 : PySem.W.codeIn K cd25 "_law_rooted" = true) (k25 : PySem.W.keepIn K (.ref f25) = true)
    (a26 : PySem.W.nsIn K mainGlobals "_law_any_way" = some (some (.ref f26))) (l26 : K.lookup f26 = some ⟨oc26, od26, .func (PySem.W.fnOf "_law_any_way" "_law_any_way" (defArgs sAnyWay) (defBody sAnyWay) (defScope sAnyWay) .none kV26 dc26 pm26 an26 cd26 ct26), sl26⟩) (c26 : PySem.W.codeIn K cd26 "_law_any_way" = true) (k26 : PySem.W.keepIn K (.ref f26) = true)
    (a27 : PySem.W.nsIn K mainGlobals "_law_some_ways" = some (some (.ref f27))) (l27 : K.lookup f27 = some ⟨oc27, od27, .func (PySem.W.fnOf "_law_some_ways" "_law_some_ways" (defArgs sSomeWays) (defBody sSomeWays) (defScope sSomeWays) .none kV27 dc27 pm27 an27 cd27 ct27), sl27⟩) (c27 : PySem.W.codeIn K cd27 "_law_some_ways" = true) (k27 : PySem.W.keepIn K (.ref f27) = true)
    (a28 : PySem.W.nsIn K mainGlobals "_law_other_names" = some (some (.ref f28))) (l28 : K.lookup f28 = some ⟨oc28, od28, .func (PySem.W.fnOf "_law_other_names" "_law_other_names" (defArgs sOtherNames) (defBody sOtherNames) (defScope sOtherNames) .none kV28 dc28 pm28 an28 cd28 ct28), sl28⟩) (c28 : PySem.W.codeIn K cd28 "_law_other_names" = true) (k28 : PySem.W.keepIn K (.ref f28) = true)
    (a29 : PySem.W.nsIn K mainGlobals "_law_renamed_word" = some (some (.ref f29))) (l29 : K.lookup f29 = some ⟨oc29, od29, .func (PySem.W.fnOf "_law_renamed_word" "_law_renamed_word" (defArgs sRenamedWord) (defBody sRenamedWord) (defScope sRenamedWord) .none kV29 dc29 pm29 an29 cd29 ct29), sl29⟩) (c29 : PySem.W.codeIn K cd29 "_law_renamed_word" = true) (k29 : PySem.W.keepIn K (.ref f29) = true)
    (a30 : PySem.W.nsIn K mainGlobals "_law_asked_so" = some (some (.ref f30))) (l30 : K.lookup f30 = some ⟨oc30, od30, .func (PySem.W.fnOf "_law_asked_so" "_law_asked_so" (defArgs sAskedSo) (defBody sAskedSo) (defScope sAskedSo) .none kV30 dc30 pm30 an30 cd30 ct30), sl30⟩) (c30 : PySem.W.codeIn K cd30 "_law_asked_so" = true) (k30 : PySem.W.keepIn K (.ref f30) = true)
    (a31 : PySem.W.nsIn K mainGlobals "_law_right" = some (some (.ref f31))) (l31 : K.lookup f31 = some ⟨oc31, od31, .func (PySem.W.fnOf "_law_right" "_law_right" (defArgs sRight) (defBody sRight) (defScope sRight) .none kV31 dc31 pm31 an31 cd31 ct31), sl31⟩) (c31 : PySem.W.codeIn K cd31 "_law_right" = true) (k31 : PySem.W.keepIn K (.ref f31) = true)
    (a32 : PySem.W.nsIn K mainGlobals "_law_turned_right" = some (some (.ref f32))) (l32 : K.lookup f32 = some ⟨oc32, od32, .func (PySem.W.fnOf "_law_turned_right" "_law_turned_right" (defArgs sTurnedRight) (defBody sTurnedRight) (defScope sTurnedRight) .none kV32 dc32 pm32 an32 cd32 ct32), sl32⟩) (c32 : PySem.W.codeIn K cd32 "_law_turned_right" = true) (k32 : PySem.W.keepIn K (.ref f32) = true)
    (a33 : PySem.W.nsIn K mainGlobals "law" = some (some (.ref f33))) (l33 : K.lookup f33 = some ⟨oc33, od33, .func (PySem.W.fnOf "law" "law" (defArgs sLaw) (defBody sLaw) (defScope sLaw) .none kV33 dc33 pm33 an33 cd33 ct33), sl33⟩) (c33 : PySem.W.codeIn K cd33 "law" = true) (k33 : PySem.W.keepIn K (.ref f33) = true)
    (sL : PySem.W.nsIn K mainGlobals "SMALL_letters" = some (some (.str "abcdef" tL))) (sB : PySem.W.nsIn K mainGlobals "SMALL_balance" = some (some (.str "abcdef" tB)))
    (y1 : PySem.W.nsIn K mainGlobals "len" = some none) (y2 : PySem.W.nsIn K mainGlobals "range" = some none) (y3 : PySem.W.nsIn K mainGlobals "all" = some none) (y4 : PySem.W.nsIn K mainGlobals "isinstance" = some none) (y5 : PySem.W.nsIn K mainGlobals "int" = some none) (y6 : PySem.W.nsIn K mainGlobals "bool" = some none) (y7 : PySem.W.nsIn K mainGlobals "str" = some none) (y8 : PySem.W.nsIn K mainGlobals "tuple" = some none) (y9 : PySem.W.nsIn K mainGlobals "list" = some none) (y10 : PySem.W.nsIn K mainGlobals "set" = some none) (y11 : PySem.W.nsIn K mainGlobals "sorted" = some none) (y12 : PySem.W.nsIn K mainGlobals "repr" = some none) :
    ∃ fd : FuncData, (∀ (s : Shared) (v : Value), BindsTo s fd ⟨[v], []⟩ [("_law_script", v)]) ∧ ∀ base : Heap, K.In base → base.Ns mainGlobals mg → FnG l.prog w K mg base 9 fa fd ["_law_script"] (spLaw K) := by
  have e := hfa.symm.trans (PySem.W.mg_of X G a33)
  cases e
  have F1 := fun_mk (st := sBackOf) l1 c1 k1
  have b1 := F1.binds (ps := ["letter"]) fun _ _ _ _ _ _ us hl => match us, hl with | [_], _ => rfl
  have g1 := PySem.W.mg_of X G a1
  have F2 := fun_mk (st := sBack) l2 c2 k2
  have b2 := F2.binds (ps := ["word"]) fun _ _ _ _ _ _ us hl => match us, hl with | [_], _ => rfl
  have g2 := PySem.W.mg_of X G a2
  have F3 := fun_mk (st := sMoved) l3 c3 k3
  have b3 := F3.binds (ps := ["ways", "strand", "step"]) fun _ _ _ _ _ _ us hl => match us, hl with | [_, _, _], _ => rfl
  have g3 := PySem.W.mg_of X G a3
  have F4 := fun_mk (st := sLetterAt) l4 c4 k4
  have b4 := F4.binds (ps := ["ways", "strand", "step"]) fun _ _ _ _ _ _ us hl => match us, hl with | [_, _, _], _ => rfl
  have g4 := PySem.W.mg_of X G a4
  have F5 := fun_mk (st := sIsStrand) l5 c5 k5
  have b5 := F5.binds (ps := ["ways", "thing"]) fun _ _ _ _ _ _ us hl => match us, hl with | [_, _], _ => rfl
  have g5 := PySem.W.mg_of X G a5
  have F6 := fun_mk (st := sRoomOf) l6 c6 k6
  have b6 := F6.binds (ps := ["ways", "one", "other"]) fun _ _ _ _ _ _ us hl => match us, hl with | [_, _, _], _ => rfl
  have g6 := PySem.W.mg_of X G a6
  have F7 := fun_mk (st := sComesFirst) l7 c7 k7
  have b7 := F7.binds (ps := ["surface", "begin", "one", "other"]) fun _ _ _ _ _ _ us hl => match us, hl with | [_, _, _, _], _ => rfl
  have g7 := PySem.W.mg_of X G a7
  have F8 := fun_mk (st := sIsBeside) l8 c8 k8
  have b8 := F8.binds (ps := ["surface", "ways", "one", "other"]) fun _ _ _ _ _ _ us hl => match us, hl with | [_, _, _, _], _ => rfl
  have g8 := PySem.W.mg_of X G a8
  have F9 := fun_mk (st := sIsAlong) l9 c9 k9
  have b9 := F9.binds (ps := ["surface", "ways", "one", "other", "many"]) fun _ _ _ _ _ _ us hl => match us, hl with | [_, _, _, _, _], _ => rfl
  have g9 := PySem.W.mg_of X G a9
  have F10 := fun_mk (st := sIsAgainst) l10 c10 k10
  have b10 := F10.binds (ps := ["surface", "ways", "one", "other", "many"]) fun _ _ _ _ _ _ us hl => match us, hl with | [_, _, _, _, _], _ => rfl
  have g10 := PySem.W.mg_of X G a10
  have F11 := fun_mk (st := sIsLong) l11 c11 k11
  have b11 := F11.binds (ps := ["thing"]) fun _ _ _ _ _ _ us hl => match us, hl with | [_], _ => rfl
  have g11 := PySem.W.mg_of X G a11
  have F12 := fun_mk (st := sIsLink) l12 c12 k12
  have b12 := F12.binds (ps := ["surface", "ways", "thing"]) fun _ _ _ _ _ _ us hl => match us, hl with | [_, _, _], _ => rfl
  have g12 := PySem.W.mg_of X G a12
  have F13 := fun_mk (st := sRunAlong) l13 c13 k13
  have b13 := F13.binds (ps := ["ways", "one", "other"]) fun _ _ _ _ _ _ us hl => match us, hl with | [_, _, _], _ => rfl
  have g13 := PySem.W.mg_of X G a13
  have F14 := fun_mk (st := sRunAgainst) l14 c14 k14
  have b14 := F14.binds (ps := ["ways", "one", "other"]) fun _ _ _ _ _ _ us hl => match us, hl with | [_, _, _], _ => rfl
  have g14 := PySem.W.mg_of X G a14
  have F15 := fun_mk (st := sLinksOf) l15 c15 k15
  have b15 := F15.binds (ps := ["surface", "ways", "one", "other"]) fun _ _ _ _ _ _ us hl => match us, hl with | [_, _, _, _], _ => rfl
  have g15 := PySem.W.mg_of X G a15
  have F16 := fun_mk (st := sLinks) l16 c16 k16
  have b16 := F16.binds (ps := ["surface", "ways", "i", "j"]) fun _ _ _ _ _ _ us hl => match us, hl with | [_, _, _, _], _ => rfl
  have g16 := PySem.W.mg_of X G a16
  have F17 := fun_mk (st := sSums) l17 c17 k17
  have b17 := F17.binds (ps := ["many", "word"]) fun _ _ _ _ _ _ us hl => match us, hl with | [_, _], _ => rfl
  have g17 := PySem.W.mg_of X G a17
  have F18 := fun_mk (st := sSideOf) l18 c18 k18
  have b18 := F18.binds (ps := ["surface", "one", "other"]) fun _ _ _ _ _ _ us hl => match us, hl with | [_, _, _], _ => rfl
  have g18 := PySem.W.mg_of X G a18
  have F19 := fun_mk (st := sBalance) l19 c19 k19
  have b19 := F19.binds (ps := ["surface", "one", "other"]) fun _ _ _ _ _ _ us hl => match us, hl with | [_, _, _], _ => rfl
  have g19 := PySem.W.mg_of X G a19
  have F20 := fun_mk (st := sTape) l20 c20 k20
  have b20 := F20.binds (ps := ["_law_script"]) fun _ _ _ _ _ _ us hl => match us, hl with | [_], _ => rfl
  have g20 := PySem.W.mg_of X G a20
  have F21 := fun_mk (st := sDraw) l21 c21 k21
  have b21 := F21.binds (ps := ["_law_tape_here", "_law_many"]) fun _ _ _ _ _ _ us hl => match us, hl with | [_, _], _ => rfl
  have g21 := PySem.W.mg_of X G a21
  have F22 := fun_mk (st := sLBack) l22 c22 k22
  have b22 := F22.binds (ps := ["_law_word"]) fun _ _ _ _ _ _ us hl => match us, hl with | [_], _ => rfl
  have g22 := PySem.W.mg_of X G a22
  have F23 := fun_mk (st := sAnyRow) l23 c23 k23
  have b23 := F23.binds (ps := ["_law_tape_here", "_law_most"]) fun _ _ _ _ _ _ us hl => match us, hl with | [_, _], _ => rfl
  have g23 := PySem.W.mg_of X G a23
  have F24 := fun_mk (st := sInner) l24 c24 k24
  have b24 := F24.binds (ps := ["_law_word"]) fun _ _ _ _ _ _ us hl => match us, hl with | [_], _ => rfl
  have g24 := PySem.W.mg_of X G a24
  have F25 := fun_mk (st := sRooted) l25 c25 k25
  have b25 := F25.binds (ps := ["_law_word"]) fun _ _ _ _ _ _ us hl => match us, hl with | [_], _ => rfl
  have g25 := PySem.W.mg_of X G a25
  have F26 := fun_mk (st := sAnyWay) l26 c26 k26
  have b26 := F26.binds (ps := ["_law_tape_here", "_law_many", "_law_long"]) fun _ _ _ _ _ _ us hl => match us, hl with | [_, _, _], _ => rfl
  have g26 := PySem.W.mg_of X G a26
  have F27 := fun_mk (st := sSomeWays) l27 c27 k27
  have b27 := F27.binds (ps := ["_law_tape_here", "_law_many", "_law_most", "_law_long"]) fun _ _ _ _ _ _ us hl => match us, hl with | [_, _, _, _], _ => rfl
  have g27 := PySem.W.mg_of X G a27
  have F28 := fun_mk (st := sOtherNames) l28 c28 k28
  have b28 := F28.binds (ps := ["_law_tape_here", "_law_many"]) fun _ _ _ _ _ _ us hl => match us, hl with | [_, _], _ => rfl
  have g28 := PySem.W.mg_of X G a28
  have F29 := fun_mk (st := sRenamedWord) l29 c29 k29
  have b29 := F29.binds (ps := ["_law_names", "_law_word"]) fun _ _ _ _ _ _ us hl => match us, hl with | [_, _], _ => rfl
  have g29 := PySem.W.mg_of X G a29
  have F30 := fun_mk (st := sAskedSo) l30 c30 k30
  have b30 := F30.binds (ps := ["_law_surface", "_law_ways"]) fun _ _ _ _ _ _ us hl => match us, hl with | [_, _], _ => rfl
  have g30 := PySem.W.mg_of X G a30
  have F31 := fun_mk (st := sRight) l31 c31 k31
  have b31 := F31.binds (ps := ["_law_tape_here", "_law_surface", "_law_ways"]) fun _ _ _ _ _ _ us hl => match us, hl with | [_, _, _], _ => rfl
  have g31 := PySem.W.mg_of X G a31
  have F32 := fun_mk (st := sTurnedRight) l32 c32 k32
  have b32 := F32.binds (ps := ["_law_tape_here", "_law_surface", "_law_ways"]) fun _ _ _ _ _ _ us hl => match us, hl with | [_, _, _], _ => rfl
  have g32 := PySem.W.mg_of X G a32
  have F33 := fun_mk (st := sLaw) l33 c33 k33
  have g33 := PySem.W.mg_of X G a33
  have gL := PySem.W.mg_of X G sL
  have gB := PySem.W.mg_of X G sB
  have z_len := PySem.W.mg_none_of X G y1
  have z_range := PySem.W.mg_none_of X G y2
  have z_all := PySem.W.mg_none_of X G y3
  have z_isinstance := PySem.W.mg_none_of X G y4
  have z_int := PySem.W.mg_none_of X G y5
  have z_bool := PySem.W.mg_none_of X G y6
  have z_str := PySem.W.mg_none_of X G y7
  have z_tuple := PySem.W.mg_none_of X G y8
  have z_list := PySem.W.mg_none_of X G y9
  have z_set := PySem.W.mg_none_of X G y10
  have z_sorted := PySem.W.mg_none_of X G y11
  have z_repr := PySem.W.mg_none_of X G y12
  refine ⟨PySem.W.fnOf "law" "law" (defArgs sLaw) (defBody sLaw) (defScope sLaw) .none kV33 dc33 pm33 an33 cd33 ct33, fun s v => .of_eq rfl, fun base _ _ => ?_⟩
  have D1 : Def l.prog w K mg base 1 "back_of" ["letter"] spBackOf f1 _ := ⟨ok_backOf (k := 0) F1 gL, b1, g1, k1⟩
  have D2 : Def l.prog w K mg base 2 "back" ["word"] spBack f2 _ := ⟨ok_back (k := 0) F2 F1 D1.ok b1 g1, b2, g2, k2⟩
  have D3 : Def l.prog w K mg base 1 "moved" ["ways", "strand", "step"] spMoved f3 _ := ⟨ok_moved (k := 0) F3 z_len, b3, g3, k3⟩
  have D4 : Def l.prog w K mg base 1 "letter_at" ["ways", "strand", "step"] spLetterAt f4 _ := ⟨ok_letterAt (k := 0) F4 z_len, b4, g4, k4⟩
  have D5 : Def l.prog w K mg base 1 "is_strand" ["ways", "thing"] spIsStrand f5 _ := ⟨ok_isStrand (k := 0) F5 z_isinstance z_int z_bool z_tuple z_len z_all, b5, g5, k5⟩
  have D6 : Def l.prog w K mg base 1 "room_of" ["ways", "one", "other"] spRoomOf f6 _ := ⟨ok_roomOf (k := 0) F6 z_len, b6, g6, k6⟩
  have D7 : Def l.prog w K mg base 1 "comes_first" ["surface", "begin", "one", "other"] spComesFirst f7 _ := ⟨ok_comesFirst (k := 0) F7, b7, g7, k7⟩
  have D8 : Def l.prog w K mg base 3 "is_beside" ["surface", "ways", "one", "other"] spIsBeside f8 _ := ⟨ok_isBeside (k := 0) F8 z_len z_set (D2.mono (by decide)) (D4.mono (by decide)) (D7.mono (by decide)), b8, g8, k8⟩
  have D9 : Def l.prog w K mg base 3 "is_along" ["surface", "ways", "one", "other", "many"] spIsAlong f9 _ := ⟨ok_isAlong (k := 0) F9 z_range z_all (D2.mono (by decide)) (D4.mono (by decide)) (D7.mono (by decide)) (D6.mono (by decide)), b9, g9, k9⟩
  have D10 : Def l.prog w K mg base 3 "is_against" ["surface", "ways", "one", "other", "many"] spIsAgainst f10 _ := ⟨ok_isAgainst (k := 0) F10 z_range z_all (D2.mono (by decide)) (D4.mono (by decide)) (D7.mono (by decide)) (D6.mono (by decide)) (D3.mono (by decide)), b10, g10, k10⟩
  have D11 : Def l.prog w K mg base 1 "is_long" ["thing"] spIsLong f11 _ := ⟨ok_isLong (k := 0) F11 z_isinstance z_int z_bool, b11, g11, k11⟩
  have D12 : Def l.prog w K mg base 4 "is_link" ["surface", "ways", "thing"] spIsLink f12 _ := ⟨ok_isLink (k := 1) F12 z_isinstance z_tuple z_len z_str (D5.mono (by decide)) (D8.mono (by decide)) (D11.mono (by decide)) (D9.mono (by decide)) (D10.mono (by decide)), b12, g12, k12⟩
  have D13 : Def l.prog w K mg base 3 "run_along" ["ways", "one", "other"] (spRun runA) f13 _ := ⟨ok_runAlong (k := 0) F13 (D4.mono (by decide)) (D6.mono (by decide)), b13, g13, k13⟩
  have D14 : Def l.prog w K mg base 3 "run_against" ["ways", "one", "other"] (spRun runG) f14 _ := ⟨ok_runAgainst (k := 0) F14 (D2.mono (by decide)) (D4.mono (by decide)) (D6.mono (by decide)), b14, g14, k14⟩
  have D15 : Def l.prog w K mg base 5 "links_of" ["surface", "ways", "one", "other"] spLinksOf f15 _ := ⟨ok_linksOf (k := 2) F15 (D13.mono (by decide)) (D14.mono (by decide)) (D12.mono (by decide)), b15, g15, k15⟩
  have D16 : Def l.prog w K mg base 6 "links" ["surface", "ways", "i", "j"] spLinks f16 _ := ⟨ok_links (k := 3) F16 z_range z_len z_sorted (D15.mono (by decide)), b16, g16, k16⟩
  have D17 : Def l.prog w K mg base 1 "sums" ["many", "word"] spSums f17 _ := ⟨ok_sums (k := 0) F17 z_tuple gL, b17, g17, k17⟩
  have D18 : Def l.prog w K mg base 1 "side_of" ["surface", "one", "other"] spSideOf f18 _ := ⟨ok_sideOf (k := 0) F18, b18, g18, k18⟩
  have D19 : Def l.prog w K mg base 3 "balance" ["surface", "one", "other"] spBalance f19 _ := ⟨ok_balance (k := 0) F19 z_len z_range gB (D17.mono (by decide)) (D18.mono (by decide)), b19, g19, k19⟩
  have D20 : Def l.prog w K mg base 1 "_law_tape" ["_law_script"] (spTape K) f20 _ := ⟨ok_tape (k := 0) F20 z_list, b20, g20, k20⟩
  have D21 : Def l.prog w K mg base 1 "_law_draw" ["_law_tape_here", "_law_many"] spDraw f21 _ := ⟨ok_draw (k := 0) F21 z_len, b21, g21, k21⟩
  have D22 : Def l.prog w K mg base 1 "_law_back" ["_law_word"] spBack f22 _ := ⟨ok_lback (k := 0) F22, b22, g22, k22⟩
  have D23 : Def l.prog w K mg base 3 "_law_any_row" ["_law_tape_here", "_law_most"] spAnyRow f23 _ := ⟨ok_anyRow (k := 0) F23 z_len z_range (D21.mono (by decide)), b23, g23, k23⟩
  have D24 : Def l.prog w K mg base 3 "_law_inner" ["_law_word"] spInner f24 _ := ⟨ok_inner (k := 0) F24 z_len (D22.mono (by decide)), b24, g24, k24⟩
  have D25 : Def l.prog w K mg base 1 "_law_rooted" ["_law_word"] spRooted f25 _ := ⟨ok_rooted (k := 0) F25 z_len z_range, b25, g25, k25⟩
  have D26 : Def l.prog w K mg base 4 "_law_any_way" ["_law_tape_here", "_law_many", "_law_long"] spAnyWay f26 _ := ⟨ok_anyWay (k := 1) F26 z_range (D21.mono (by decide)) (D24.mono (by decide)) (D25.mono (by decide)), b26, g26, k26⟩
  have D27 : Def l.prog w K mg base 5 "_law_some_ways" ["_law_tape_here", "_law_many", "_law_most", "_law_long"] spSomeWays f27 _ := ⟨ok_someWays (k := 2) F27 z_range z_len z_tuple (D21.mono (by decide)) (D26.mono (by decide)) (D22.mono (by decide)), b27, g27, k27⟩
  have D28 : Def l.prog w K mg base 3 "_law_other_names" ["_law_tape_here", "_law_many"] spOtherNames f28 _ := ⟨ok_otherNames (k := 0) F28 z_len z_list (D21.mono (by decide)) (D22.mono (by decide)), b28, g28, k28⟩
  have D29 : Def l.prog w K mg base 1 "_law_renamed_word" ["_law_names", "_law_word"] spRenamed f29 _ := ⟨ok_renamed (k := 0) F29, b29, g29, k29⟩
  have D30 : Def l.prog w K mg base 7 "_law_asked_so" ["_law_surface", "_law_ways"] spAsked f30 _ := ⟨ok_asked (k := 4) F30 z_len z_range (D16.mono (by decide)), b30, g30, k30⟩
  have D31 : FnG l.prog w K mg base 8 f31 _ ["_law_tape_here", "_law_surface", "_law_ways"] spTurned := ok_right laws (k := 5) F31 z_len z_tuple z_repr (D21.mono (by decide)) (D28.mono (by decide)) (D30.mono (by decide)) (D29.mono (by decide)) (D19.mono (by decide))
  have D32 : Def l.prog w K mg base 8 "_law_turned_right" ["_law_tape_here", "_law_surface", "_law_ways"] spTurned f32 _ := ⟨ok_turned laws (k := 5) F32 z_len z_sorted (D21.mono (by decide)) (D22.mono (by decide)) (D30.mono (by decide)), b32, g32, k32⟩
  exact ok_law (k := 6) F33 z_len z_range (D20.mono (by decide)) (D21.mono (by decide)) (D23.mono (by decide)) (D27.mono (by decide)) D31 b31 g31 k31 (D32.mono (by decide))
end RW
set_option Elab.async false
set_option linter.all false
set_option maxRecDepth 100000
open PySem PySem.W PyProof.Rows
set_option maxHeartbeats 0 in
theorem PySem.Challenge.cw_ringwords_k49_whole_surfaces_told_otherw_holds : PySem.Challenge.rw_ringwords_k49_whole_surfaces_told_otherw.Holds := by
  w_on; o_law; k_head; (case hw => w_witness2)
  k_fill
  refine RW.walk_ofG (l := PySem.Challenge.rw_ringwords_k49_whole_surfaces_told_otherw) (n := 63) (k := 9) (x := "_law_script") (sp := fun K => RW.spLaw K) rfl (by decide) rfl ⟨rfl, by decide, by decide⟩ (fun w h Y => PySem.W.kIn_of Y) ?F (fun K H a ns hl hS => ⟨a, ns, rfl, hS, fun _ => rfl⟩)
  case F =>
    intro w mg fa h KX G hmg
    refine' RW.all_mk KX G hmg ?a1 ?l1 ?c1 ?k1 ?a2 ?l2 ?c2 ?k2 ?a3 ?l3 ?c3 ?k3 ?a4 ?l4 ?c4 ?k4 ?a5 ?l5 ?c5 ?k5 ?a6 ?l6 ?c6 ?k6 ?a7 ?l7 ?c7 ?k7 ?a8 ?l8 ?c8 ?k8 ?a9 ?l9 ?c9 ?k9 ?a10 ?l10 ?c10 ?k10 ?a11 ?l11 ?c11 ?k11 ?a12 ?l12 ?c12 ?k12 ?a13 ?l13 ?c13 ?k13 ?a14 ?l14 ?c14 ?k14 ?a15 ?l15 ?c15 ?k15 ?a16 ?l16 ?c16 ?k16 ?a17 ?l17 ?c17 ?k17 ?a18 ?l18 ?c18 ?k18 ?a19 ?l19 ?c19 ?k19 ?a20 ?l20 ?c20 ?k20 ?a21 ?l21 ?c21 ?k21 ?a22 ?l22 ?c22 ?k22 ?a23 ?l23 ?c23 ?k23 ?a24 ?l24 ?c24 ?k24 ?a25 ?l25 ?c25 ?k25 ?a26 ?l26 ?c26 ?k26 ?a27 ?l27 ?c27 ?k27 ?a28 ?l28 ?c28 ?k28 ?a29 ?l29 ?c29 ?k29 ?a30 ?l30 ?c30 ?k30 ?a31 ?l31 ?c31 ?k31 ?a32 ?l32 ?c32 ?k32 ?a33 ?l33 ?c33 ?k33 ?sL ?sB ?y1 ?y2 ?y3 ?y4 ?y5 ?y6 ?y7 ?y8 ?y9 ?y10 ?y11 ?y12
    (case a1 => k_is); (case l1 => k_is); (case c1 => k_is); (case k1 => k_is); (case a2 => k_is); (case l2 => k_is); (case c2 => k_is); (case k2 => k_is)
    (case a3 => k_is); (case l3 => k_is); (case c3 => k_is); (case k3 => k_is); (case a4 => k_is); (case l4 => k_is); (case c4 => k_is); (case k4 => k_is)
    (case a5 => k_is); (case l5 => k_is); (case c5 => k_is); (case k5 => k_is); (case a6 => k_is); (case l6 => k_is); (case c6 => k_is); (case k6 => k_is)
    (case a7 => k_is); (case l7 => k_is); (case c7 => k_is); (case k7 => k_is); (case a8 => k_is); (case l8 => k_is); (case c8 => k_is); (case k8 => k_is)
    (case a9 => k_is); (case l9 => k_is); (case c9 => k_is); (case k9 => k_is); (case a10 => k_is); (case l10 => k_is); (case c10 => k_is); (case k10 => k_is)
    (case a11 => k_is); (case l11 => k_is); (case c11 => k_is); (case k11 => k_is); (case a12 => k_is); (case l12 => k_is); (case c12 => k_is); (case k12 => k_is)
    (case a13 => k_is); (case l13 => k_is); (case c13 => k_is); (case k13 => k_is); (case a14 => k_is); (case l14 => k_is); (case c14 => k_is); (case k14 => k_is)
    (case a15 => k_is); (case l15 => k_is); (case c15 => k_is); (case k15 => k_is); (case a16 => k_is); (case l16 => k_is); (case c16 => k_is); (case k16 => k_is)
    (case a17 => k_is); (case l17 => k_is); (case c17 => k_is); (case k17 => k_is); (case a18 => k_is); (case l18 => k_is); (case c18 => k_is); (case k18 => k_is)
    (case a19 => k_is); (case l19 => k_is); (case c19 => k_is); (case k19 => k_is); (case a20 => k_is); (case l20 => k_is); (case c20 => k_is); (case k20 => k_is)
    (case a21 => k_is); (case l21 => k_is); (case c21 => k_is); (case k21 => k_is); (case a22 => k_is); (case l22 => k_is); (case c22 => k_is); (case k22 => k_is)
    (case a23 => k_is); (case l23 => k_is); (case c23 => k_is); (case k23 => k_is); (case a24 => k_is); (case l24 => k_is); (case c24 => k_is); (case k24 => k_is)
    (case a25 => k_is); (case l25 => k_is); (case c25 => k_is); (case k25 => k_is); (case a26 => k_is); (case l26 => k_is); (case c26 => k_is); (case k26 => k_is)
    (case a27 => k_is); (case l27 => k_is); (case c27 => k_is); (case k27 => k_is); (case a28 => k_is); (case l28 => k_is); (case c28 => k_is); (case k28 => k_is)
    (case a29 => k_is); (case l29 => k_is); (case c29 => k_is); (case k29 => k_is); (case a30 => k_is); (case l30 => k_is); (case c30 => k_is); (case k30 => k_is)
    (case a31 => k_is); (case l31 => k_is); (case c31 => k_is); (case k31 => k_is); (case a32 => k_is); (case l32 => k_is); (case c32 => k_is); (case k32 => k_is)
    (case a33 => k_is); (case l33 => k_is); (case c33 => k_is); (case k33 => k_is); (case sL => k_is); (case sB => k_is); (case y1 => k_is); (case y2 => k_is)
    (case y3 => k_is); (case y4 => k_is); (case y5 => k_is); (case y6 => k_is); (case y7 => k_is); (case y8 => k_is); (case y9 => k_is); (case y10 => k_is)
    (case y11 => k_is); (case y12 => k_is)
